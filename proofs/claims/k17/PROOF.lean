import PyProof.Rows.All
import HandS.HeadHook1
import HandS.HeadHook2
import HandS.Exc
import KE.KSuper
import KE.KIsAll
import KE.KTryMore
import HandS.HeadHook3
import HandS.Property
import KE.KNestM
import Wide.All
import OpenK.AllK
import Wide.FinOn
import HandS.ForMost
import HandS.DictComp
import HandS.ListItems
import HandS.Defaults
import HandS.Deep
import HandS.IsInst
import HandS.HeadEnd
import HandS.EndBits
import HandS.More
import HandS.Conv
import HandS.SortInts
import HandS.ExcInit
import HandS.Lambda
import HandS.Rev
import HandS.MakeKwOnly
import HandS.MakeKw
import HandS.OwnEq
import HandS.OwnIter
import HandS.IterVal
import KE.KDictCopyH
import HandS.DictTup
import HandS.FStr
import HandS.RaiseMore
import HandS.TupLe
import KE.KStateDown
import HandS.Head0
import HandS.Head1
import HandS.Head2
import HandS.Words
import HandS.Nested
import HandS.ExcIs
import HandS.ExcField
import HandS.HotCalls
import KE.KExcSuper
import KE.KExcIs
import HandS.TryOnly
import PyProof.StrLawsTight
import HandS.TupLen
import KE.SortKeyHeap
import KE.KSortKey
import KE.SortData
import KE.KDictSum
import HandS.HeadWalk
import KE.KEqNest
import HandS.Flow
import PySem.Challenge.RW_fogbeacons_k17_dawn_range
set_option Elab.async false
set_option linter.all false
set_option maxRecDepth 100000
set_option autoImplicit false
namespace VI
open PySem PySem.Spec PyProof.Rows L2 He
def txtOf : Value → Option Str
  | .str x _ => some x
  | _ => none
def tupW (K : PySem.W.Frag) (x : Str) : Option (List (Option Str)) := match PySem.W.nsIn K mainGlobals x with
  | some (some (.ref a)) => (match K.lookup a with
    | some ⟨.type c, _, .seq its _, _⟩ => if c = "tuple" then some (its.toList.map txtOf) else none
    | _ => none)
  | _ => none
abbrev AlU : Type := AlD × List (Option (List (Option Str)))
def obsU (fa : List Fa) (fn : List DefD) (us : List (Str × List Str)) (K : PySem.W.Frag) : AlU := (obsD fa fn K, us.map fun u => tupW K u.1)
def valU (fn : List DefD) (us : List (Str × List Str)) : AlU := (valD fn, us.map fun u => some (u.2.map some))
def SaysU (fa : List Fa) (fn : List DefD) (us : List (Str × List Str)) (K : PySem.W.Frag) : Prop := obsU fa fn us K = valU fn us
def newM : List Nat → Nat → List Nat → Nat × List Nat
  | [], mk, acc => (mk, acc)
  | a :: r, mk, acc => match Nat.beq (Nat.land (Nat.shiftRight mk a) 1) 1 with
    | true => newM r mk acc
    | false => newM r (Nat.lor mk (Nat.shiftLeft 1 a)) (a :: acc)
def refsG (g : Addr → Option Obj) : List Nat → List Nat
  | [] => []
  | a :: r => match g a with
    | some o => refsD o ++ refsG g r
    | none => refsG g r
def wideM (g : Addr → Option Obj) : Nat → Nat → List Nat → List Nat → List Nat
  | 0, _, seen, fr => seen ++ fr
  | n + 1, mk, seen, fr => match newM (refsG g fr) mk [] with
    | (mk', new) => wideM g n mk' (seen ++ fr) new
def markL : List Nat → Nat
  | [] => 0
  | a :: r => Nat.lor (Nat.shiftLeft 1 a) (markL r)
def wideN (g : Addr → Option Obj) (n : Nat) (_ : List Nat) (fr : List Nat) : List Nat := wideM g n (markL fr) [] fr
structure XcD where
  name : Str
  qual : Str
  params : Arguments
  body : List Stmt
  scope : Scope
  fs : List Str
abbrev XcW : Type := Option (Str × Str × Arguments × FuncBody × Scope × Addr × List Str × Addr)
def xcW (K : PySem.W.Frag) (x : Str) : XcW := match K.lookup (ma K (ga K x) "__init__") with
  | some ⟨_, _, .func fd, _⟩ => some (fd.name, fd.qualname, fd.params, fd.body, fd.scope, fd.globals, fd.closure.map (·.1), fd.builtins)
  | _ => none
def XcD.val (d : XcD) : XcW := some ("__init__", d.qual, d.params, .stmts d.body, d.scope, mainGlobals, ["__class__"], builtinsNs)
def xcFile (K : PySem.W.Frag) (file : Str) : Value → Bool
  | .ref c => (match K.lookup c with
    | some ⟨_, _, Data.fields vs, _⟩ => (match (vs[2]? : Option Value) with
      | some (Value.str y _) => decide (y = file)
      | _ => false)
    | _ => false)
  | _ => false
def xcCell (K : PySem.W.Frag) (C : Addr) : List (Str × Addr) → Bool
  | [(_, cc)] => (match K.lookup cc with
    | some ⟨_, _, .cell (some (.ref D)), _⟩ => decide (D = C)
    | _ => false)
  | _ => false
def xcFn (K : PySem.W.Frag) (file q : Str) (C f : Addr) : Bool := match K.lookup f with
  | some ⟨_, _, .func fd, _⟩ => decide (fd.defaults = .none) && (decide (fd.kwdefaults = .none) && (PySem.W.codeIn K fd.code q && (xcFile K file fd.code && xcCell K C fd.closure)))
  | _ => false
def xcCls (K : PySem.W.Frag) (C : Addr) : Bool := match K.lookup C with
  | some ⟨.type "type", _, .cls cd, sl⟩ => (match cd.mro, sl.toList with
    | .ref D :: bm, [_, _, _, _, some (.builtin n), _] => decide (D = C) && (decide (n = "ValueError.__new__") && (!cd.hasDel && (cd.hasDict && HandSPX.refsVE bm)))
    | _, _ => false)
  | _ => false
def xcB (file : Str) (K : PySem.W.Frag) (d : XcD) : Bool :=
  decide (PySem.W.nsIn K mainGlobals d.name = some (some (.ref (ga K d.name)))) && (decide (PySem.W.findIn K (.ref (ga K d.name)) "__init__" = some (some (.ref (ma K (ga K d.name) "__init__")))) && (xcFn K file d.qual (ga K d.name) (ma K (ga K d.name) "__init__") && (xcCls K (ga K d.name) &&
    (decide (PySem.W.typeIn K (.ref (ma K (ga K d.name) "__init__")) = some (.type "function")) && (PySem.W.keepIn K (.ref (ga K d.name)) && (decide (PySem.W.findIn K (.ref (ga K d.name)) "__setattr__" = some (some (.builtin "object.__setattr__"))) &&
      (decide (PySem.W.subIn K (.ref (ga K d.name)) (.type "BaseException") = some true) && (decide (PySem.W.typeIn K (.ref (ga K d.name)) = some (.type "type")) && (decide (PySem.W.subIn K (.ref (ga K d.name)) (.type "ValueError") = some true) && (decide (PySem.W.mroIn K (ga K d.name) (.ref (ga K d.name)) = some true) &&
        (decide (PySem.W.ks_superIn K (ga K d.name) (ga K d.name) "__init__" = some (some (.builtin "ValueError.__init__"))) && (decide (PySem.W.nsIn K cStatics "thirdparty.any" = some none) &&
          (decide (PySem.W.findIn K (.ref (ga K d.name)) "__getattribute__" = some (some (.builtin "BaseException.__getattribute__"))) && (decide (PySem.W.findIn K (.ref (ga K d.name)) "__getattr__" = some none) && (PySem.W.hasDictIn K (ga K d.name) &&
            (decide (PySem.W.findIn K (.ref (ga K d.name)) "__class__" = some (some (.builtin "object.__class__"))) && (decide (PySem.W.specialIn K (.builtin "object.__class__") "__get__" = some (some (.builtin "getset_descriptor.__get__"))) && (decide (PySem.W.takesIn K (.builtin "object.__class__") = some true) &&
              (decide (PySem.W.mroIn K (ga K d.name) (.type "object") = some true) && d.fs.all fun f => decide (PySem.W.findIn K (.ref (ga K d.name)) f = some none))))))))))))))))))))
def clV (K : PySem.W.Frag) (x : Str) : Value := match PySem.W.nsIn K mainGlobals x with
  | some (some (.ref a)) => .ref a
  | _ => .type "ValueError"
def xsB (K : PySem.W.Frag) (q : Str × Str × Bool) : Bool := decide (PySem.W.kitOne K (.ref (ga K q.1)) (clV K q.2.1) = some q.2.2) && decide (PySem.W.exmOne K (.ref (ga K q.1)) (clV K q.2.1) = some q.2.2)
abbrev AlX : Type := AlU × (Bool × List XcW)
def obsX (file : Str) (fa : List Fa) (fn : List DefD) (us : List (Str × List Str)) (xs : List XcD) (ys : List (Str × Str × Bool)) (K : PySem.W.Frag) : AlX := (obsU fa fn us K, ((xs.all fun d => xcB file K d) && ys.all fun q => xsB K q, xs.map fun d => xcW K d.name))
def valX (fn : List DefD) (us : List (Str × List Str)) (xs : List XcD) : AlX := (valU fn us, (true, xs.map XcD.val))
def SaysX (file : Str) (fa : List Fa) (fn : List DefD) (us : List (Str × List Str)) (xs : List XcD) (ys : List (Str × Str × Bool)) (K : PySem.W.Frag) : Prop := obsX file fa fn us xs ys K = valX fn us xs
def asX (g : Addr → Option Obj) (n : Nat) : List Addr := wideN g n [] [mainGlobals, cStatics]
def obsXG (n : Nat) (file : Str) (fa : List Fa) (fn : List DefD) (us : List (Str × List Str)) (xs : List XcD) (ys : List (Str × Str × Bool)) (g : Addr → Option Obj) : AlX := obsX file fa fn us xs ys (frG g (asX g n))
def hookX (n : Nat) (file : Str) (fa : List Fa) (fn : List DefD) (us : List (Str × List Str)) (xs : List XcD) (ys : List (Str × Str × Bool)) : PySem.W.Hook where
  α := AlX
  obs := fun s => obsXG n file fa fn us xs ys s.heap.get?
  val := fun _ => valX fn us xs
  says := fun _ h => ∃ K : PySem.W.Frag, K.In h ∧ SaysX file fa fn us xs ys K
  of := fun _ _ e => ⟨_, frG_in, e⟩
  keeps := fun _ _ _ ⟨K, hK, c⟩ k => ⟨K, PySem.W.Frag.In.keeps hK k, c⟩
theorem obsXG_eq {n : Nat} {file : Str} {fa : List Fa} {fn : List DefD} {us : List (Str × List Str)} {xs : List XcD} {ys : List (Str × Str × Bool)} {g : Addr → Option Obj} {s : Shared} (h : ∀ a, g a = s.heap.get? a) : obsXG n file fa fn us xs ys g = (hookX n file fa fn us xs ys).obs s := by
  have e : g = s.heap.get? := funext h
  rw [e] <;> rfl
section
variable {file : Str} {fa : List Fa} {fn : List DefD} {us : List (Str × List Str)} {xs : List XcD} {ys : List (Str × Str × Bool)} {K : PySem.W.Frag}
theorem SaysX.u (c : SaysX file fa fn us xs ys K) : SaysU fa fn us K := congrArg (fun z : AlX => z.1) c
theorem SaysX.xc (c : SaysX file fa fn us xs ys K) (i : Nat) {d : XcD} (h : xs[i]? = some d := by rfl) : xcB file K d = true ∧ xcW K d.name = d.val := by
  have c1 : ((xs.all fun d => xcB file K d) && ys.all fun q => xsB K q) = true := congrArg (fun z : AlX => z.2.1) c
  have c2 : (xs.map fun d => xcW K d.name) = xs.map XcD.val := congrArg (fun z : AlX => z.2.2) c
  refine ⟨List.all_eq_true.mp (Bool.and_eq_true_iff.mp c1).1 d (List.mem_of_getElem? h), ?_⟩
  have e := congrArg (fun l : List XcW => l[i]?) c2
  have e : (xs.map fun d => xcW K d.name)[i]? = (xs.map XcD.val)[i]? := e
  rw [List.getElem?_map, List.getElem?_map, h] at e
  exact Option.some.inj e
theorem SaysX.lies (c : SaysX file fa fn us xs ys K) (i : Nat) {q : Str × Str × Bool} (h : ys[i]? = some q := by rfl) : xsB K q = true := by
  have c1 : ((xs.all fun d => xcB file K d) && ys.all fun q => xsB K q) = true := congrArg (fun z : AlX => z.2.1) c
  exact List.all_eq_true.mp (Bool.and_eq_true_iff.mp c1).2 q (List.mem_of_getElem? h)
end
end VI
set_option Elab.async false
set_option linter.all false
set_option maxRecDepth 100000
set_option autoImplicit false
namespace VI
open PySem PySem.Spec PyProof.Rows L2 He
abbrev TbD : Type := Str × List (Str × Int)
def tbA (K : PySem.W.Frag) (t : TbD) : Addr := match PySem.W.nsIn K mainGlobals t.1 with
  | some (some (.ref a)) => a
  | _ => 0
def tbB (K : PySem.W.Frag) (t : TbD) : Bool := match PySem.W.nsIn K mainGlobals t.1 with
  | some (some (.ref a)) => valsB K a (t.2.map fun p => (p.1, Dv.int p.2))
  | _ => false
theorem tbB_some {K : PySem.W.Frag} {t : TbD} (h : tbB K t = true) : PySem.W.nsIn K mainGlobals t.1 = some (some (.ref (tbA K t))) ∧ valsB K (tbA K t) (t.2.map fun p => (p.1, Dv.int p.2)) = true := by
  unfold tbB at h
  unfold tbA
  split at h
  · rename_i a e
    rw [e]
    exact ⟨rfl, h⟩
  · cases h
abbrev AlB : Type := Bool × List (Option (List (Option (Str × Int))))
def obsB (ts : List TbD) (K : PySem.W.Frag) : AlB := (ts.all fun t => tbB K t, ts.map fun t => dicW K (tbA K t))
def valB (ts : List TbD) (w : World) : AlB := (true, ts.map fun t => some (keysIn w.params (t.2.map (·.1))))
def SaysB (ts : List TbD) (w : World) (K : PySem.W.Frag) : Prop := obsB ts K = valB ts w
end VI
set_option Elab.async false
set_option linter.all false
set_option maxRecDepth 100000
set_option autoImplicit false
namespace VI
open PySem PySem.Spec PyProof.Rows L2 He
def prAd (K : PySem.W.Frag) (d : DefD) : Addr := ma K (ga K d.at_.1) d.name
def prG (K : PySem.W.Frag) (d : DefD) : Addr := match PySem.W.recIn K (prAd K d) "property" with
  | some (.ref g :: _) => g
  | _ => 0
def prF (K : PySem.W.Frag) (d : DefD) : FnW := match K.lookup (prG K d) with
  | some ⟨_, _, .func fd, _⟩ => some (fd.name, fd.qualname, fd.params, fd.body, fd.scope, fd.globals, fd.closure, fd.builtins)
  | _ => none
def tkB (o : Option Bool) : Bool := match o with
  | some true => true
  | _ => false
def recB (K : PySem.W.Frag) (d : DefD) : Bool := match PySem.W.recIn K (prAd K d) "property" with
  | some (.ref _ :: _) => true
  | _ => false
def prB (K : PySem.W.Frag) (d : DefD) : Bool :=
  eqO (PySem.W.findIn K (.ref (ga K d.at_.1)) d.name) (some (some (.ref (prAd K d)))) && (eqO (PySem.W.specialIn K (.ref (prAd K d)) "__get__") (some (some (.builtin "property.__get__"))) && (tkB (PySem.W.takesIn K (.ref (prAd K d))) && (recB K d && (PySem.W.keepIn K (.ref (prG K d)) && match K.lookup (prG K d) with
    | some ⟨_, _, .func fd, _⟩ => PySem.W.codeIn K fd.code d.qual && (dflB K fd.defaults (DefD.dvs K d) && kwdB K fd.kwdefaults (DefD.kws K d))
    | _ => false))))
abbrev AlP : Type := Bool × List FnW
def obsP (ps : List DefD) (K : PySem.W.Frag) : AlP := (ps.all fun d => prB K d, ps.map fun d => prF K d)
def valP (ps : List DefD) : AlP := (true, ps.map DefD.val)
def SaysP (ps : List DefD) (K : PySem.W.Frag) : Prop := obsP ps K = valP ps
theorem SaysP.def_ {ps : List DefD} {K : PySem.W.Frag} (c : SaysP ps K) (i : Nat) {d : DefD} (hu : ps[i]? = some d := by rfl) :
    (∃ fd, FunD K d.name d.qual d.params d.body d.scope (DefD.dvs K d) (DefD.kws K d) (prG K d) fd) ∧ PropOf K (ga K d.at_.1) d.name (prAd K d) (prG K d) := by
  have c1 : (ps.all fun d => prB K d) = true := congrArg (fun z : AlP => z.1) c
  have c2 : ps.map (fun d => prF K d) = ps.map DefD.val := congrArg (fun z : AlP => z.2) c
  have c1 := List.all_eq_true.mp c1 _ (List.mem_of_getElem? hu)
  have e2 : (ps.map (fun d => prF K d))[i]? = (ps.map DefD.val)[i]? := by rw [c2]
  rw [List.getElem?_map, List.getElem?_map, hu] at e2
  have e3 : prF K d = DefD.val d := Option.some.inj e2
  unfold prB at c1
  simp only [Bool.and_eq_true] at c1
  obtain ⟨a1, a2, a3, a4, a5, a6⟩ := c1
  have a1 := eqO_ok a1
  have a2 := eqO_ok a2
  have a3 : PySem.W.takesIn K (.ref (prAd K d)) = some true := by
    unfold tkB at a3
    split at a3
    · assumption
    · cases a3
  have a4 : ∃ rest, PySem.W.recIn K (prAd K d) "property" = some (Value.ref (prG K d) :: rest) := by
    unfold recB at a4
    split at a4
    · rename_i g r e
      refine ⟨r, ?_⟩
      unfold prG
      rw [e]
    · cases a4
  refine ⟨?_, a1, a2, a3, a4⟩
  unfold prF at e3
  split at e3
  · rename_i oc od fd osl hl
    rw [hl] at a6
    simp only [Bool.and_eq_true] at a6
    obtain ⟨b1, b2, b3⟩ := a6
    obtain ⟨nm, ql, pr, bd, sc, gl, clo, dv, kv, doc, pm, an, co, ct, bl⟩ := fd
    simp only [DefD.val, Option.some.injEq, Prod.mk.injEq] at e3
    obtain ⟨rfl, rfl, rfl, rfl, rfl, rfl, rfl, rfl⟩ := e3
    exact ⟨_, ⟨oc, od, dv, kv, doc, pm, an, co, ct, osl, rfl, hl, b1, dflB_ok b2, kwdB_ok b3⟩, a5⟩
  · cases e3
def isoB (K : PySem.W.Frag) (c : Str) : Bool :=
  PySem.W.plainGet K (ga K c) "__class__" && (PySem.W.hasDictIn K (ga K c) && (eqO (PySem.W.findIn K (.ref (ga K c)) "__class__") (some (some (.builtin "object.__class__"))) && (eqO (PySem.W.specialIn K (.builtin "object.__class__") "__get__") (some (some (.builtin "getset_descriptor.__get__"))) && (tkB (PySem.W.takesIn K (.builtin "object.__class__")) && tkB (PySem.W.mroIn K (ga K c) (.type "object"))))))
structure IsoC (K : PySem.W.Frag) (C : Addr) : Prop where
  pg : PySem.W.plainGet K C "__class__" = true
  hd : PySem.W.hasDictIn K C = true
  ha : PySem.W.findIn K (.ref C) "__class__" = some (some (.builtin "object.__class__"))
  hn : PySem.W.specialIn K (.builtin "object.__class__") "__get__" = some (some (.builtin "getset_descriptor.__get__"))
  ht : PySem.W.takesIn K (.builtin "object.__class__") = some true
  hm : PySem.W.mroIn K C (.type "object") = some true
def SaysI (cs : List Str) (K : PySem.W.Frag) : Prop := (cs.all fun c => isoB K c) = true
end VI
set_option Elab.async false
set_option linter.all false
set_option maxRecDepth 100000
set_option autoImplicit false
namespace VI
open PySem PySem.Spec PyProof.Rows L2 He
def lamC (K : PySem.W.Frag) : Addr := match K.lookup (fAd K ("floor_rows", none)) with
  | some ⟨_, _, .func fd, _⟩ => (match fd.code with
    | .ref c => c
    | _ => 0)
  | _ => 0
def lamP (K : PySem.W.Frag) : Addr := match K.lookup (lamC K) with
  | some ⟨_, _, .fields vs, _⟩ => (match (vs[11]? : Option Value) with
    | some (.ref P) => P
    | _ => 0)
  | _ => 0
def lamOk (K : PySem.W.Frag) : Bool := (match K.lookup (fAd K ("floor_rows", none)) with
  | some ⟨_, _, .func fd, _⟩ => (match fd.code with
    | .ref _ => true
    | _ => false)
  | _ => false) && PySem.W.codeHdIn K (lamC K) (lamP K)
def SaysL (K : PySem.W.Frag) : Prop := lamOk K = true
theorem SaysL.code {K : PySem.W.Frag} (h : SaysL K) {f : Addr} {oc : Value} {od : Option Addr} {fd : FuncData} {osl : Array (Option Value)} (hf : f = fAd K ("floor_rows", none)) (e : K.lookup f = some ⟨oc, od, .func fd, osl⟩) : fd.code = .ref (lamC K) := by
  subst hf
  have h : lamOk K = true := h
  unfold lamOk at h
  unfold lamC
  rw [e] at h ⊢
  simp only [Bool.and_eq_true] at h
  split at h
  · rename_i c hc
    have key : ∀ v : Value, v = .ref c → v = Value.ref (match v with
      | .ref c => c
      | _ => 0) := fun v e => by subst e; rfl
    exact key _ hc
  · cases h.1
theorem SaysL.hd {K : PySem.W.Frag} (h : SaysL K) : PySem.W.codeHdIn K (lamC K) (lamP K) = true := by
  have h : lamOk K = true := h
  unfold lamOk at h
  simp only [Bool.and_eq_true] at h
  exact h.2
structure SaysXL (file : Str) (fa : List Fa) (fn : List DefD) (us : List (Str × List Str)) (xs : List XcD) (ys : List (Str × Str × Bool)) (ts : List TbD) (ps : List DefD) (cs : List Str) (w : World) (K : PySem.W.Frag) : Prop where
  cx : SaysX file fa fn us xs ys K
  ct : SaysB ts w K
  cpr : SaysP ps K
  cis : SaysI cs K
  lam : SaysL K
  no : K.lookup (lamP K) = none
end VI
set_option Elab.async false
set_option linter.all false
set_option maxRecDepth 100000
set_option maxHeartbeats 0
namespace Lk17
open PySem L2 VI
abbrev top (i : Nat) : Stmt := PySem.Challenge.pw_fogbeacons_k17_dawn_range.main.body.getD i (.Pass ⟨0, 0, 0, 0⟩)
abbrev s_d_law_row : Stmt := top 21
abbrev s_d_law_cell : Stmt := top 20
abbrev s_d_law_dawn : Stmt := top 26
abbrev s_m_Network_ddinit_x : Stmt := inClass (top 18) 0
abbrev s_d_law_class_c : Stmt := top 23
abbrev s_d_law_told : Stmt := top 24
abbrev s_m_Network_lines : Stmt := inClass (top 18) 10
abbrev s_d_law_is_integer : Stmt := top 22
abbrev s_m_Network_ddcontains : Stmt := inClass (top 18) 3
abbrev s_m_Network_ddlen : Stmt := inClass (top 18) 2
abbrev s_m_Network_dditer : Stmt := inClass (top 18) 1
abbrev s_d_law_is_new : Stmt := top 25
abbrev s_d_law_other_errors : Stmt := top 28
abbrev s_d_law_named_errors : Stmt := top 27
abbrev s_d_law : Stmt := top 29
/-- the classes -/
def cl (K : PySem.W.Frag) : Nat → Addr
  | 0 => He.ga K "Network"
  | 3 => He.ga K "InvalidName"
  | 4 => He.ga K "UnknownKeeper"
  | 5 => He.ga K "DuplicateEntry"
  | 6 => He.ga K "NetworkFull"
  | 7 => He.ga K "SelfLine"
  | 8 => He.ga K "InvalidNumber"
  | 9 => He.ga K "InvalidTable"
  | 10 => He.ga K "InvalidFault"
  | 11 => He.ga K "InvalidLateness"
  | 12 => He.ga K "EmptyWindow"
  | 13 => He.ga K "InvalidChain"
  | 14 => He.ga K "Unexplained"
  | 15 => He.ga K "InvalidText"
  | _ => 0
abbrev x_d_law_row : He.DefD := ⟨("_law_row", none), "_law_row", "_law_row", defArgs s_d_law_row, defBody s_d_law_row, defScope s_d_law_row, [], []⟩
abbrev x_d_law_cell : He.DefD := ⟨("_law_cell", none), "_law_cell", "_law_cell", defArgs s_d_law_cell, defBody s_d_law_cell, defScope s_d_law_cell, [], []⟩
abbrev x_d_law_dawn : He.DefD := ⟨("_law_dawn", none), "_law_dawn", "_law_dawn", defArgs s_d_law_dawn, defBody s_d_law_dawn, defScope s_d_law_dawn, [], []⟩
abbrev x_m_Network_ddinit_x : He.DefD := ⟨("Network", some "__init__"), "__init__", "Network.__init__", defArgs s_m_Network_ddinit_x, defBody s_m_Network_ddinit_x, defScope s_m_Network_ddinit_x, [], []⟩
abbrev x_d_law_class_c : He.DefD := ⟨("_law_class", none), "_law_class", "_law_class", defArgs s_d_law_class_c, defBody s_d_law_class_c, defScope s_d_law_class_c, [], []⟩
abbrev x_d_law_told : He.DefD := ⟨("_law_told", none), "_law_told", "_law_told", defArgs s_d_law_told, defBody s_d_law_told, defScope s_d_law_told, [], []⟩
abbrev x_m_Network_lines : He.DefD := ⟨("Network", some "lines"), "lines", "Network.lines", defArgs s_m_Network_lines, defBody s_m_Network_lines, defScope s_m_Network_lines, [], []⟩
abbrev x_d_law_is_integer : He.DefD := ⟨("_law_is_integer", none), "_law_is_integer", "_law_is_integer", defArgs s_d_law_is_integer, defBody s_d_law_is_integer, defScope s_d_law_is_integer, [], []⟩
abbrev x_m_Network_ddcontains : He.DefD := ⟨("Network", some "__contains__"), "__contains__", "Network.__contains__", defArgs s_m_Network_ddcontains, defBody s_m_Network_ddcontains, defScope s_m_Network_ddcontains, [], []⟩
abbrev x_m_Network_ddlen : He.DefD := ⟨("Network", some "__len__"), "__len__", "Network.__len__", defArgs s_m_Network_ddlen, defBody s_m_Network_ddlen, defScope s_m_Network_ddlen, [], []⟩
abbrev x_m_Network_dditer : He.DefD := ⟨("Network", some "__iter__"), "__iter__", "Network.__iter__", defArgs s_m_Network_dditer, defBody s_m_Network_dditer, defScope s_m_Network_dditer, [], []⟩
abbrev x_d_law_is_new : He.DefD := ⟨("_law_is_new", none), "_law_is_new", "_law_is_new", defArgs s_d_law_is_new, defBody s_d_law_is_new, defScope s_d_law_is_new, [], []⟩
abbrev x_d_law_other_errors : He.DefD := ⟨("_law_other_errors", none), "_law_other_errors", "_law_other_errors", defArgs s_d_law_other_errors, defBody s_d_law_other_errors, defScope s_d_law_other_errors, [], []⟩
abbrev x_d_law_named_errors : He.DefD := ⟨("_law_named_errors", none), "_law_named_errors", "_law_named_errors", defArgs s_d_law_named_errors, defBody s_d_law_named_errors, defScope s_d_law_named_errors, [], []⟩
abbrev x_d_law : He.DefD := ⟨("law", none), "law", "law", defArgs s_d_law, defBody s_d_law, defScope s_d_law, [], []⟩
def fn : List He.DefD := [x_d_law_row, x_d_law_cell, x_d_law_dawn, x_m_Network_ddinit_x, x_d_law_class_c, x_d_law_told, x_m_Network_lines, x_d_law_is_integer, x_m_Network_ddcontains, x_m_Network_ddlen, x_m_Network_dditer, x_d_law_is_new, x_d_law_other_errors, x_d_law_named_errors, x_d_law]
def fa : List He.Fa := [.free "abs", .free "int", .free "range", .free "len", .glo "_law_cell", .glo "_law_row", .glo "_law_dawn", .free "min", .free "max", .int "MOST_DAWN" 100, .glo "InvalidNumber", .cls "Network", .noat "Network" "dawn", .noat "Network" "names", .noat "Network" "watches", .noat "Network" "needs", .noat "Network" "spans", .noat "Network" "into", .mkr "Network", .glo "Network", .glo "FogError", .glo "InvalidName", .free "isinstance", .glo "UnknownKeeper", .glo "DuplicateEntry", .glo "NetworkFull", .glo "SelfLine", .glo "InvalidTable", .glo "InvalidFault", .glo "InvalidLateness", .glo "EmptyWindow", .glo "InvalidChain", .glo "Unexplained", .glo "InvalidText", .free "ValueError", .glo "_law_class", .glo "_law_told", .meth "Network" "lines", .free "bool", .glo "_law_is_integer", .free "list", .meth "Network" "__contains__", .free "iter", .meth "Network" "__len__", .meth "Network" "__iter__", .glo "_law_is_new", .glo "_law_other_errors", .glo "_law_named_errors", .free "super", .glo "law"]
def us : List (Str × List Str) := []
def file : Str := "/claim/cut.py"
abbrev X_InvalidName : VI.XcD := ⟨"InvalidName", "InvalidName.__init__", defArgs (inClass (top 3) 0), defBody (inClass (top 3) 0), defScope (inClass (top 3) 0), ["name"]⟩
abbrev X_UnknownKeeper : VI.XcD := ⟨"UnknownKeeper", "UnknownKeeper.__init__", defArgs (inClass (top 4) 0), defBody (inClass (top 4) 0), defScope (inClass (top 4) 0), ["name"]⟩
abbrev X_DuplicateEntry : VI.XcD := ⟨"DuplicateEntry", "DuplicateEntry.__init__", defArgs (inClass (top 5) 0), defBody (inClass (top 5) 0), defScope (inClass (top 5) 0), ["entry"]⟩
abbrev X_NetworkFull : VI.XcD := ⟨"NetworkFull", "NetworkFull.__init__", defArgs (inClass (top 6) 0), defBody (inClass (top 6) 0), defScope (inClass (top 6) 0), ["limit"]⟩
abbrev X_SelfLine : VI.XcD := ⟨"SelfLine", "SelfLine.__init__", defArgs (inClass (top 7) 0), defBody (inClass (top 7) 0), defScope (inClass (top 7) 0), ["name"]⟩
abbrev X_InvalidNumber : VI.XcD := ⟨"InvalidNumber", "InvalidNumber.__init__", defArgs (inClass (top 8) 0), defBody (inClass (top 8) 0), defScope (inClass (top 8) 0), ["number"]⟩
abbrev X_InvalidTable : VI.XcD := ⟨"InvalidTable", "InvalidTable.__init__", defArgs (inClass (top 9) 0), defBody (inClass (top 9) 0), defScope (inClass (top 9) 0), ["name"]⟩
abbrev X_InvalidFault : VI.XcD := ⟨"InvalidFault", "InvalidFault.__init__", defArgs (inClass (top 10) 0), defBody (inClass (top 10) 0), defScope (inClass (top 10) 0), ["fault"]⟩
abbrev X_InvalidLateness : VI.XcD := ⟨"InvalidLateness", "InvalidLateness.__init__", defArgs (inClass (top 11) 0), defBody (inClass (top 11) 0), defScope (inClass (top 11) 0), ["pair"]⟩
abbrev X_EmptyWindow : VI.XcD := ⟨"EmptyWindow", "EmptyWindow.__init__", defArgs (inClass (top 12) 0), defBody (inClass (top 12) 0), defScope (inClass (top 12) 0), ["name", "low", "high"]⟩
abbrev X_InvalidChain : VI.XcD := ⟨"InvalidChain", "InvalidChain.__init__", defArgs (inClass (top 13) 0), defBody (inClass (top 13) 0), defScope (inClass (top 13) 0), ["row"]⟩
abbrev X_Unexplained : VI.XcD := ⟨"Unexplained", "Unexplained.__init__", defArgs (inClass (top 14) 0), defBody (inClass (top 14) 0), defScope (inClass (top 14) 0), ["chains"]⟩
abbrev X_InvalidText : VI.XcD := ⟨"InvalidText", "InvalidText.__init__", defArgs (inClass (top 15) 0), defBody (inClass (top 15) 0), defScope (inClass (top 15) 0), ["line"]⟩
def xs : List VI.XcD := [X_InvalidName, X_UnknownKeeper, X_DuplicateEntry, X_NetworkFull, X_SelfLine, X_InvalidNumber, X_InvalidTable, X_InvalidFault, X_InvalidLateness, X_EmptyWindow, X_InvalidChain, X_Unexplained, X_InvalidText]
def yy (x y : Str) (b : Bool) : Str × Str × Bool := (x, y, b)
def ys : List (Str × Str × Bool) := [yy "InvalidName" "InvalidName" true, yy "UnknownKeeper" "InvalidName" false, yy "DuplicateEntry" "InvalidName" false, yy "NetworkFull" "InvalidName" false, yy "SelfLine" "InvalidName" false, yy "InvalidNumber" "InvalidName" false, yy "InvalidTable" "InvalidName" false, yy "InvalidFault" "InvalidName" false, yy "InvalidLateness" "InvalidName" false, yy "EmptyWindow" "InvalidName" false, yy "InvalidChain" "InvalidName" false, yy "Unexplained" "InvalidName" false, yy "InvalidText" "InvalidName" false, yy "InvalidName" "UnknownKeeper" false, yy "UnknownKeeper" "UnknownKeeper" true, yy "DuplicateEntry" "UnknownKeeper" false, yy "NetworkFull" "UnknownKeeper" false, yy "SelfLine" "UnknownKeeper" false, yy "InvalidNumber" "UnknownKeeper" false, yy "InvalidTable" "UnknownKeeper" false, yy "InvalidFault" "UnknownKeeper" false, yy "InvalidLateness" "UnknownKeeper" false, yy "EmptyWindow" "UnknownKeeper" false, yy "InvalidChain" "UnknownKeeper" false, yy "Unexplained" "UnknownKeeper" false, yy "InvalidText" "UnknownKeeper" false, yy "InvalidName" "DuplicateEntry" false, yy "UnknownKeeper" "DuplicateEntry" false, yy "DuplicateEntry" "DuplicateEntry" true, yy "NetworkFull" "DuplicateEntry" false, yy "SelfLine" "DuplicateEntry" false, yy "InvalidNumber" "DuplicateEntry" false, yy "InvalidTable" "DuplicateEntry" false, yy "InvalidFault" "DuplicateEntry" false, yy "InvalidLateness" "DuplicateEntry" false, yy "EmptyWindow" "DuplicateEntry" false, yy "InvalidChain" "DuplicateEntry" false, yy "Unexplained" "DuplicateEntry" false, yy "InvalidText" "DuplicateEntry" false, yy "InvalidName" "NetworkFull" false, yy "UnknownKeeper" "NetworkFull" false, yy "DuplicateEntry" "NetworkFull" false, yy "NetworkFull" "NetworkFull" true, yy "SelfLine" "NetworkFull" false, yy "InvalidNumber" "NetworkFull" false, yy "InvalidTable" "NetworkFull" false, yy "InvalidFault" "NetworkFull" false, yy "InvalidLateness" "NetworkFull" false, yy "EmptyWindow" "NetworkFull" false, yy "InvalidChain" "NetworkFull" false, yy "Unexplained" "NetworkFull" false, yy "InvalidText" "NetworkFull" false, yy "InvalidName" "SelfLine" false, yy "UnknownKeeper" "SelfLine" false, yy "DuplicateEntry" "SelfLine" false, yy "NetworkFull" "SelfLine" false, yy "SelfLine" "SelfLine" true, yy "InvalidNumber" "SelfLine" false, yy "InvalidTable" "SelfLine" false, yy "InvalidFault" "SelfLine" false, yy "InvalidLateness" "SelfLine" false, yy "EmptyWindow" "SelfLine" false, yy "InvalidChain" "SelfLine" false, yy "Unexplained" "SelfLine" false, yy "InvalidText" "SelfLine" false, yy "InvalidName" "InvalidNumber" false, yy "UnknownKeeper" "InvalidNumber" false, yy "DuplicateEntry" "InvalidNumber" false, yy "NetworkFull" "InvalidNumber" false, yy "SelfLine" "InvalidNumber" false, yy "InvalidNumber" "InvalidNumber" true, yy "InvalidTable" "InvalidNumber" false, yy "InvalidFault" "InvalidNumber" false, yy "InvalidLateness" "InvalidNumber" false, yy "EmptyWindow" "InvalidNumber" false, yy "InvalidChain" "InvalidNumber" false, yy "Unexplained" "InvalidNumber" false, yy "InvalidText" "InvalidNumber" false, yy "InvalidName" "InvalidTable" false, yy "UnknownKeeper" "InvalidTable" false, yy "DuplicateEntry" "InvalidTable" false, yy "NetworkFull" "InvalidTable" false, yy "SelfLine" "InvalidTable" false, yy "InvalidNumber" "InvalidTable" false, yy "InvalidTable" "InvalidTable" true, yy "InvalidFault" "InvalidTable" false, yy "InvalidLateness" "InvalidTable" false, yy "EmptyWindow" "InvalidTable" false, yy "InvalidChain" "InvalidTable" false, yy "Unexplained" "InvalidTable" false, yy "InvalidText" "InvalidTable" false, yy "InvalidName" "InvalidFault" false, yy "UnknownKeeper" "InvalidFault" false, yy "DuplicateEntry" "InvalidFault" false, yy "NetworkFull" "InvalidFault" false, yy "SelfLine" "InvalidFault" false, yy "InvalidNumber" "InvalidFault" false, yy "InvalidTable" "InvalidFault" false, yy "InvalidFault" "InvalidFault" true, yy "InvalidLateness" "InvalidFault" false, yy "EmptyWindow" "InvalidFault" false, yy "InvalidChain" "InvalidFault" false, yy "Unexplained" "InvalidFault" false, yy "InvalidText" "InvalidFault" false, yy "InvalidName" "InvalidLateness" false, yy "UnknownKeeper" "InvalidLateness" false, yy "DuplicateEntry" "InvalidLateness" false, yy "NetworkFull" "InvalidLateness" false, yy "SelfLine" "InvalidLateness" false, yy "InvalidNumber" "InvalidLateness" false, yy "InvalidTable" "InvalidLateness" false, yy "InvalidFault" "InvalidLateness" false, yy "InvalidLateness" "InvalidLateness" true, yy "EmptyWindow" "InvalidLateness" false, yy "InvalidChain" "InvalidLateness" false, yy "Unexplained" "InvalidLateness" false, yy "InvalidText" "InvalidLateness" false, yy "InvalidName" "EmptyWindow" false, yy "UnknownKeeper" "EmptyWindow" false, yy "DuplicateEntry" "EmptyWindow" false, yy "NetworkFull" "EmptyWindow" false, yy "SelfLine" "EmptyWindow" false, yy "InvalidNumber" "EmptyWindow" false, yy "InvalidTable" "EmptyWindow" false, yy "InvalidFault" "EmptyWindow" false, yy "InvalidLateness" "EmptyWindow" false, yy "EmptyWindow" "EmptyWindow" true, yy "InvalidChain" "EmptyWindow" false, yy "Unexplained" "EmptyWindow" false, yy "InvalidText" "EmptyWindow" false, yy "InvalidName" "InvalidChain" false, yy "UnknownKeeper" "InvalidChain" false, yy "DuplicateEntry" "InvalidChain" false, yy "NetworkFull" "InvalidChain" false, yy "SelfLine" "InvalidChain" false, yy "InvalidNumber" "InvalidChain" false, yy "InvalidTable" "InvalidChain" false, yy "InvalidFault" "InvalidChain" false, yy "InvalidLateness" "InvalidChain" false, yy "EmptyWindow" "InvalidChain" false, yy "InvalidChain" "InvalidChain" true, yy "Unexplained" "InvalidChain" false, yy "InvalidText" "InvalidChain" false, yy "InvalidName" "Unexplained" false, yy "UnknownKeeper" "Unexplained" false, yy "DuplicateEntry" "Unexplained" false, yy "NetworkFull" "Unexplained" false, yy "SelfLine" "Unexplained" false, yy "InvalidNumber" "Unexplained" false, yy "InvalidTable" "Unexplained" false, yy "InvalidFault" "Unexplained" false, yy "InvalidLateness" "Unexplained" false, yy "EmptyWindow" "Unexplained" false, yy "InvalidChain" "Unexplained" false, yy "Unexplained" "Unexplained" true, yy "InvalidText" "Unexplained" false, yy "InvalidName" "InvalidText" false, yy "UnknownKeeper" "InvalidText" false, yy "DuplicateEntry" "InvalidText" false, yy "NetworkFull" "InvalidText" false, yy "SelfLine" "InvalidText" false, yy "InvalidNumber" "InvalidText" false, yy "InvalidTable" "InvalidText" false, yy "InvalidFault" "InvalidText" false, yy "InvalidLateness" "InvalidText" false, yy "EmptyWindow" "InvalidText" false, yy "InvalidChain" "InvalidText" false, yy "Unexplained" "InvalidText" false, yy "InvalidText" "InvalidText" true, yy "InvalidName" "ValueError" true, yy "UnknownKeeper" "ValueError" true, yy "DuplicateEntry" "ValueError" true, yy "NetworkFull" "ValueError" true, yy "SelfLine" "ValueError" true, yy "InvalidNumber" "ValueError" true, yy "InvalidTable" "ValueError" true, yy "InvalidFault" "ValueError" true, yy "InvalidLateness" "ValueError" true, yy "EmptyWindow" "ValueError" true, yy "InvalidChain" "ValueError" true, yy "Unexplained" "ValueError" true, yy "InvalidText" "ValueError" true, yy "InvalidName" "FogError" true, yy "UnknownKeeper" "FogError" true, yy "DuplicateEntry" "FogError" true, yy "NetworkFull" "FogError" true, yy "SelfLine" "FogError" true, yy "InvalidNumber" "FogError" true, yy "InvalidTable" "FogError" true, yy "InvalidFault" "FogError" true, yy "InvalidLateness" "FogError" true, yy "EmptyWindow" "FogError" true, yy "InvalidChain" "FogError" true, yy "Unexplained" "FogError" true, yy "InvalidText" "FogError" true]
def loose : List PySem.Str := ["_wall", "FogError", "InvalidName", "UnknownKeeper", "DuplicateEntry", "NetworkFull", "SelfLine", "InvalidNumber", "InvalidTable", "InvalidFault", "InvalidLateness", "EmptyWindow", "InvalidChain", "Unexplained", "InvalidText", "MOST_DAWN", "Network", "_law_cell", "_law_row", "_law_is_integer", "_law_class", "_law_told", "_law_is_new", "_law_dawn", "_law_named_errors", "_law_other_errors"]
abbrev R : PySem.W.OpenRow := PySem.W.OpenLaw.row PySem.Challenge.rw_fogbeacons_k17_dawn_range
abbrev vw : Program := PySem.W.view R.prog [29]
abbrev hk : PySem.W.Hook := VI.hookX 6 file fa fn us xs ys
def ob (s : PySem.W.SharedT) : VI.AlX := VI.obsXG 6 file fa fn us xs ys (HandSHeadRun.getT s)
theorem ob_eq (s : PySem.W.SharedT) : ob s = hk.obs s.abs := VI.obsXG_eq (HandSHeadRun.getT_eq s)
theorem run (w : World) : HandSHeadRun.RunEq R vw hk ob 20000 loose w := by
  intro os
  kernel_rfl
end Lk17
set_option Elab.async false
set_option linter.all false
set_option maxRecDepth 100000
namespace VI
open PySem L2
inductive D where
  | non | bl (b : Bool) | int (i : Int) | str (s : Str)
  | tup (xs : List D)
  | lst (m : Bool) (xs : List D)
  | dct (m : Bool) (ks : List Key) (xs : List D)
  | dtt (m : Bool) (ks : List (List Key)) (xs : List D)
  | obj (m : Bool) (c : Nat) (fs : List Str) (xs : List D)
  | scr (ns : List Int)
  | ktup (xs : List D)
  | exc (c : Nat) (fs : List Str) (xs : List D)
  | hol (a : Addr)
  | lsa (as : List (Option Addr)) (xs : List D)
mutual
def D.frz : D → D
  | .non => .non | .bl b => .bl b | .int i => .int i | .str s => .str s | .scr ns => .scr ns | .ktup xs => .ktup xs | .exc c fs xs => .exc c fs xs | .hol a => .hol a
  | .tup xs => .tup (frzL xs)
  | .lst _ xs => .lst false (frzL xs)
  | .lsa _ xs => .lst false (frzL xs)
  | .dct _ ks xs => .dct false ks (frzL xs)
  | .dtt _ ks xs => .dtt false ks (frzL xs)
  | .obj _ c fs xs => .obj false c fs (frzL xs)
def D.frzL : List D → List D
  | [] => []
  | x :: xs => x.frz :: frzL xs
end
mutual
def D.plain : D → Bool
  | .tup xs => plainL xs
  | .lst m _ => !m
  | .lsa _ _ => false
  | .dct m _ _ => !m
  | .dtt m _ _ => !m
  | .obj m _ _ _ => !m
  | _ => true
def D.plainL : List D → Bool
  | [] => true
  | x :: xs => x.plain && plainL xs
end
mutual
def D.clean : D → Bool
  | .tup xs => cleanL xs
  | .lst m xs => m && cleanL xs
  | .lsa _ xs => cleanL xs
  | .dct m _ xs => m && cleanL xs
  | .dtt m _ xs => m && cleanL xs
  | .obj m _ _ xs => m && cleanL xs
  | .scr _ => false
  | .ktup _ => false
  | .exc _ _ _ => false
  | _ => true
def D.cleanL : List D → Bool
  | [] => true
  | x :: xs => x.clean && cleanL xs
end
section
variable (K : PySem.W.Frag) (cl : Nat → Addr) (B H : Hp)
mutual
def Rep : D → V → List Addr → Prop
  | .non, v, fp => v = .non ∧ fp = []
  | .bl b, v, fp => v = .bl b ∧ fp = []
  | .int i, v, fp => v = .int i ∧ fp = []
  | .str s, v, fp => v = .str s ∧ fp = []
  | .tup ds, v, fp => ∃ a vs, v = .ref a ∧ B a = some (.tup vs) ∧ RepL ds vs fp
  | .ktup ds, v, fp => ∃ a vs, v = .ref a ∧ SqT K B a vs ∧ RepL ds vs [] ∧ fp = []
  | .hol a, v, fp => v = .ref a ∧ fp = []
  | .lsa as ds, v, fp => ∃ a vs fq, v = .ref a ∧ H a = some (.lst vs) ∧ RepL ds vs fq ∧ fp = a :: fq ∧ ∀ (i : Nat) (b : Addr), as[i]? = some (some b) → vs[i]? = some (V.ref b)
  | .exc c fs ds, v, fp => ∃ a dx vs, v = .ref a ∧ Rd B a (exo a (cl c) (some dx)) ∧ Rd B dx (exd dx (fs.zip vs).reverse) ∧ fs.length = ds.length ∧ RepL ds vs [] ∧ fp = []
  | .scr ns, v, fp => ∃ a, v = .ref a ∧ SqL K B a (ns.map V.int) ∧ fp = []
  | .lst false ds, v, fp => ∃ a vs, v = .ref a ∧ B a = some (.lst vs) ∧ RepL ds vs [] ∧ fp = []
  | .lst true ds, v, fp => ∃ a vs fq, v = .ref a ∧ H a = some (.lst vs) ∧ RepL ds vs fq ∧ fp = a :: fq
  | .dct false ks ds, v, fp => ∃ a vs, v = .ref a ∧ Rd B a (.dK (ks.zip vs)) ∧ ks.length = ds.length ∧ RepL ds vs [] ∧ fp = []
  | .dct true ks ds, v, fp => ∃ a vs fq, v = .ref a ∧ H a = some (.dK (ks.zip vs)) ∧ ks.length = ds.length ∧ RepL ds vs fq ∧ fp = a :: fq
  | .dtt false ks ds, v, fp => ∃ a vs, v = .ref a ∧ Rd B a (.dT (ks.zip vs)) ∧ ks.length = ds.length ∧ RepL ds vs [] ∧ fp = []
  | .dtt true ks ds, v, fp => ∃ a vs fq, v = .ref a ∧ H a = some (.dT (ks.zip vs)) ∧ ks.length = ds.length ∧ RepL ds vs fq ∧ fp = a :: fq
  | .obj false c fs ds, v, fp => ∃ a dx vs, v = .ref a ∧ B a = some (.ins (cl c) dx (fs.zip vs)) ∧ fs.length = ds.length ∧ RepL ds vs [] ∧ fp = []
  | .obj true c fs ds, v, fp => ∃ a dx vs fq, v = .ref a ∧ H a = some (.ins (cl c) dx (fs.zip vs)) ∧ fs.length = ds.length ∧ RepL ds vs fq ∧ fp = a :: fq
def RepL : List D → List V → List Addr → Prop
  | [], vs, fp => vs = [] ∧ fp = []
  | d :: ds, vs, fp => ∃ v vr f1 f2, vs = v :: vr ∧ fp = f1 ++ f2 ∧ Rep d v f1 ∧ RepL ds vr f2
end
end
structure BLe0 (B B' : Hp) : Prop where
  rd : ∀ a u, Rd B a u → Rd B' a u
  ins : ∀ a C dx fs, B a = some (.ins C dx fs) → B' a = some (.ins C dx fs)
  lst : ∀ a vs, B a = some (.lst vs) → B' a = some (.lst vs)
  tup : ∀ a vs, B a = some (.tup vs) → B' a = some (.tup vs)
  xd : ∀ a l, B a = some (.xd l) → B' a = some (.xd l)
structure BLe (B H : Hp) : Prop extends BLe0 B H where
  nt : ∀ a ps, ¬ Rd B a (.tbl ps)
instance {B H : Hp} : CoeOut (BLe B H) (BLe0 B H) := ⟨BLe.toBLe0⟩
theorem BLe.refl (B : Hp) : BLe0 B B := ⟨fun _ _ h => h, fun _ _ _ _ h => h, fun _ _ h => h, fun _ _ h => h, fun _ _ h => h⟩
theorem BLe0.tr {B B1 B2 : Hp} (a : BLe0 B B1) (b : BLe0 B1 B2) : BLe0 B B2 := ⟨fun p u h => b.rd p u (a.rd p u h), fun p C dx fs h => b.ins p C dx fs (a.ins p C dx fs h), fun p vs h => b.lst p vs (a.lst p vs h), fun p vs h => b.tup p vs (a.tup p vs h), fun p l h => b.xd p l (a.xd p l h)⟩
theorem BLe0.trans {B B1 B2 : Hp} (a : BLe0 B B1) (b : BLe B1 B2) : BLe B B2 := { toBLe0 := a.tr b.toBLe0, nt := fun p ps r => b.nt p ps (a.rd p _ r) }
theorem BLe.trans {B B1 B2 : Hp} (a : BLe B B1) (b : BLe0 B1 B2) : BLe B B2 := { toBLe0 := a.toBLe0.tr b, nt := a.nt }
def told : HO → Bool
  | .tbl _ => false
  | .frz _ (.tbl _) => false
  | _ => true
theorem BLe0.sqT {K : PySem.W.Frag} {B B' : Hp} (b : BLe0 B B') {a : Addr} {vs : List V} (h : SqT K B a vs) : SqT K B' a vs := h.imp (b.rd a _) id
theorem BLe0.sqL {K : PySem.W.Frag} {B B' : Hp} (b : BLe0 B B') {a : Addr} {vs : List V} (h : SqL K B a vs) : SqL K B' a vs := h.imp (b.rd a _) id
def BEx (B B' : Hp) : Prop := ∀ a u, B a = some u → B' a = some u
theorem BEx.refl (B : Hp) : BEx B B := fun _ _ h => h
theorem BEx.trans {B B1 B2 : Hp} (a : BEx B B1) (b : BEx B1 B2) : BEx B B2 := fun p u h => b p u (a p u h)
theorem BLe.of_same {B B' : Hp} (h : ∀ a u, B a = some u → B' a = some u) : BLe0 B B' :=
  ⟨fun a u q => q.imp (h a u) fun ⟨o, q⟩ => ⟨o, h a _ q⟩, fun a C dx fs q => h a _ q, fun a vs q => h a _ q, fun a vs q => h a _ q, fun a l q => h a _ q⟩
theorem BEx.le {B B' : Hp} (h : BEx B B') : BLe0 B B' := BLe.of_same h
section
variable {K : PySem.W.Frag} {cl : Nat → Addr} {B H B' H' : Hp}
mutual
theorem Rep.mono (b : BLe0 B B') : ∀ {d : D} {v : V} {fp : List Addr}, (∀ a ∈ fp, H' a = H a) → Rep K cl B H d v fp → Rep K cl B' H' d v fp
  | .non, _, _, _, h => by simpa only [Rep] using h
  | .bl _, _, _, _, h => by simpa only [Rep] using h
  | .int _, _, _, _, h => by simpa only [Rep] using h
  | .str _, _, _, _, h => by simpa only [Rep] using h
  | .tup ds, _, _, k, h => by
    simp only [Rep] at h ⊢
    obtain ⟨a, vs, e, q, r⟩ := h
    exact ⟨a, vs, e, b.tup _ _ q, RepL.mono b k r⟩
  | .ktup ds, _, _, k, h => by
    simp only [Rep] at h ⊢
    obtain ⟨a, vs, e, q, r, e2⟩ := h
    exact ⟨a, vs, e, b.sqT q, RepL.mono b (fun _ z => nomatch z) r, e2⟩
  | .hol _, _, _, _, h => by simpa only [Rep] using h
  | .lsa as ds, _, _, k, h => by
    simp only [Rep] at h ⊢
    obtain ⟨a, vs, fq, e, q, r, e2, e3⟩ := h
    subst e2
    exact ⟨a, vs, fq, e, (k a (by simp)).trans q, RepL.mono b (fun c z => k c (by simp [z])) r, rfl, e3⟩
  | .exc c fs ds, _, _, _, h => by
    simp only [Rep] at h ⊢
    obtain ⟨a, dx, vs, e, q, q2, l, r, e2⟩ := h
    exact ⟨a, dx, vs, e, b.rd _ _ q, b.rd _ _ q2, l, RepL.mono b (fun _ z => nomatch z) r, e2⟩
  | .scr ns, _, _, _, h => by
    simp only [Rep] at h ⊢
    obtain ⟨a, e, q, e2⟩ := h
    exact ⟨a, e, b.sqL q, e2⟩
  | .lst false ds, _, _, k, h => by
    simp only [Rep] at h ⊢
    obtain ⟨a, vs, e, q, r, e2⟩ := h
    exact ⟨a, vs, e, b.lst _ _ q, RepL.mono b (fun _ z => nomatch z) r, e2⟩
  | .lst true ds, _, _, k, h => by
    simp only [Rep] at h ⊢
    obtain ⟨a, vs, fq, e, q, r, e2⟩ := h
    subst e2
    exact ⟨a, vs, fq, e, (k a (by simp)).trans q, RepL.mono b (fun c z => k c (by simp [z])) r, rfl⟩
  | .dct false ks ds, _, _, k, h => by
    simp only [Rep] at h ⊢
    obtain ⟨a, vs, e, q, l, r, e2⟩ := h
    exact ⟨a, vs, e, b.rd _ _ q, l, RepL.mono b (fun _ z => nomatch z) r, e2⟩
  | .dct true ks ds, _, _, k, h => by
    simp only [Rep] at h ⊢
    obtain ⟨a, vs, fq, e, q, l, r, e2⟩ := h
    subst e2
    exact ⟨a, vs, fq, e, (k a (by simp)).trans q, l, RepL.mono b (fun c z => k c (by simp [z])) r, rfl⟩
  | .dtt false ks ds, _, _, k, h => by
    simp only [Rep] at h ⊢
    obtain ⟨a, vs, e, q, l, r, e2⟩ := h
    exact ⟨a, vs, e, b.rd _ _ q, l, RepL.mono b (fun _ z => nomatch z) r, e2⟩
  | .dtt true ks ds, _, _, k, h => by
    simp only [Rep] at h ⊢
    obtain ⟨a, vs, fq, e, q, l, r, e2⟩ := h
    subst e2
    exact ⟨a, vs, fq, e, (k a (by simp)).trans q, l, RepL.mono b (fun c z => k c (by simp [z])) r, rfl⟩
  | .obj false c fs ds, _, _, k, h => by
    simp only [Rep] at h ⊢
    obtain ⟨a, dx, vs, e, q, l, r, e2⟩ := h
    exact ⟨a, dx, vs, e, b.ins _ _ _ _ q, l, RepL.mono b (fun _ z => nomatch z) r, e2⟩
  | .obj true c fs ds, _, _, k, h => by
    simp only [Rep] at h ⊢
    obtain ⟨a, dx, vs, fq, e, q, l, r, e2⟩ := h
    subst e2
    exact ⟨a, dx, vs, fq, e, (k a (by simp)).trans q, l, RepL.mono b (fun c z => k c (by simp [z])) r, rfl⟩
theorem RepL.mono (b : BLe0 B B') : ∀ {ds : List D} {vs : List V} {fp : List Addr}, (∀ a ∈ fp, H' a = H a) → RepL K cl B H ds vs fp → RepL K cl B' H' ds vs fp
  | [], _, _, _, h => by simpa only [RepL] using h
  | d :: ds, _, _, k, h => by
    simp only [RepL] at h ⊢
    obtain ⟨v, vr, f1, f2, e, e2, r, rr⟩ := h
    subst e2
    exact ⟨v, vr, f1, f2, e, rfl, Rep.mono b (fun a z => k a (by simp [z])) r, RepL.mono b (fun a z => k a (by simp [z])) rr⟩
end
theorem RepL.length : ∀ {ds : List D} {vs : List V} {fp : List Addr}, RepL K cl B H ds vs fp → ds.length = vs.length
  | [], _, _, h => by simp only [RepL] at h; rw [h.1]; rfl
  | d :: ds, _, _, h => by
    simp only [RepL] at h
    obtain ⟨v, vr, f1, f2, e, _, _, rr⟩ := h
    rw [e, List.length_cons, List.length_cons, RepL.length rr]
mutual
theorem Rep.plain : ∀ {d : D} {v : V} {fp : List Addr}, d.plain = true → Rep K cl B H d v fp → fp = []
  | .non, _, _, _, h => by simp only [Rep] at h; exact h.2
  | .bl _, _, _, _, h => by simp only [Rep] at h; exact h.2
  | .int _, _, _, _, h => by simp only [Rep] at h; exact h.2
  | .str _, _, _, _, h => by simp only [Rep] at h; exact h.2
  | .tup ds, _, _, k, h => by
    simp only [Rep] at h
    obtain ⟨a, vs, _, _, r⟩ := h
    exact RepL.plain (by simpa only [D.plain] using k) r
  | .scr _, _, _, _, h => by simp only [Rep] at h; obtain ⟨_, _, _, e⟩ := h; exact e
  | .ktup _, _, _, _, h => by simp only [Rep] at h; obtain ⟨_, _, _, _, _, e⟩ := h; exact e
  | .exc _ _ _, _, _, _, h => by simp only [Rep] at h; obtain ⟨_, _, _, _, _, _, _, _, e⟩ := h; exact e
  | .hol _, _, _, _, h => by simp only [Rep] at h; exact h.2
  | .lsa _ _, _, _, k, _ => by simp [D.plain] at k
  | .lst false ds, _, _, _, h => by simp only [Rep] at h; obtain ⟨_, _, _, _, _, e⟩ := h; exact e
  | .lst true ds, _, _, k, _ => by simp [D.plain] at k
  | .dct false ks ds, _, _, _, h => by simp only [Rep] at h; obtain ⟨_, _, _, _, _, _, e⟩ := h; exact e
  | .dct true ks ds, _, _, k, _ => by simp [D.plain] at k
  | .dtt false ks ds, _, _, _, h => by simp only [Rep] at h; obtain ⟨_, _, _, _, _, _, e⟩ := h; exact e
  | .dtt true ks ds, _, _, k, _ => by simp [D.plain] at k
  | .obj false _ _ ds, _, _, _, h => by simp only [Rep] at h; obtain ⟨_, _, _, _, _, _, _, e⟩ := h; exact e
  | .obj true _ _ ds, _, _, k, _ => by simp [D.plain] at k
theorem RepL.plain : ∀ {ds : List D} {vs : List V} {fp : List Addr}, D.plainL ds = true → RepL K cl B H ds vs fp → fp = []
  | [], _, _, _, h => by simp only [RepL] at h; exact h.2
  | d :: ds, _, _, k, h => by
    simp only [D.plainL, Bool.and_eq_true] at k
    simp only [RepL] at h
    obtain ⟨v, vr, f1, f2, _, e2, r, rr⟩ := h
    rw [e2, Rep.plain k.1 r, RepL.plain k.2 rr]; rfl
end
theorem D.frzL_length : ∀ (ds : List D), (D.frzL ds).length = ds.length
  | [] => rfl
  | d :: ds => by rw [D.frzL, List.length_cons, List.length_cons, D.frzL_length ds]
def HSame (B' H : Hp) (fp : List Addr) : Prop := ∀ a ∈ fp, B' a = H a
theorem HSame.nil {B' H : Hp} : HSame B' H [] := fun _ z => nomatch z
mutual
theorem Rep.frz (b : BLe0 B B') : ∀ {d : D} {v : V} {fp : List Addr}, HSame B' H fp → Rep K cl B H d v fp → Rep K cl B' H' d.frz v []
  | .non, _, _, _, h => by simp only [Rep, D.frz] at h ⊢; exact ⟨h.1, trivial⟩
  | .bl _, _, _, _, h => by simp only [Rep, D.frz] at h ⊢; exact ⟨h.1, trivial⟩
  | .int _, _, _, _, h => by simp only [Rep, D.frz] at h ⊢; exact ⟨h.1, trivial⟩
  | .str _, _, _, _, h => by simp only [Rep, D.frz] at h ⊢; exact ⟨h.1, trivial⟩
  | .tup ds, _, _, k, h => by
    simp only [Rep, D.frz] at h ⊢
    obtain ⟨a, vs, e, q, r⟩ := h
    exact ⟨a, vs, e, b.tup _ _ q, RepL.frz b k r⟩
  | .ktup ds, _, _, k, h => by
    simp only [Rep, D.frz] at h ⊢
    obtain ⟨a, vs, e, q, r, e2⟩ := h
    exact ⟨a, vs, e, b.sqT q, RepL.mono b (fun _ z => nomatch z) r, trivial⟩
  | .scr ns, _, _, _, h => by
    simp only [Rep, D.frz] at h ⊢
    obtain ⟨a, e, q, e2⟩ := h
    exact ⟨a, e, b.sqL q, trivial⟩
  | .hol _, _, _, _, h => by simp only [Rep, D.frz] at h ⊢; exact ⟨h.1, trivial⟩
  | .lsa as ds, _, _, k, h => by
    simp only [Rep, D.frz] at h ⊢
    obtain ⟨a, vs, fq, e, q, r, e2, _⟩ := h
    subst e2
    exact ⟨a, vs, e, (k a (by simp)).trans q, RepL.frz b (fun c z => k c (by simp [z])) r, trivial⟩
  | .exc c fs ds, _, _, k, h => by
    simp only [Rep, D.frz] at h ⊢
    obtain ⟨a, dx, vs, e, q, q2, l, r, e2⟩ := h
    exact ⟨a, dx, vs, e, b.rd _ _ q, b.rd _ _ q2, l, RepL.mono b (fun _ z => nomatch z) r, trivial⟩
  | .lst false ds, _, _, k, h => by
    simp only [Rep, D.frz] at h ⊢
    obtain ⟨a, vs, e, q, r, e2⟩ := h
    exact ⟨a, vs, e, b.lst _ _ q, RepL.frz b HSame.nil r, trivial⟩
  | .lst true ds, _, _, k, h => by
    simp only [Rep, D.frz] at h ⊢
    obtain ⟨a, vs, fq, e, q, r, e2⟩ := h
    subst e2
    exact ⟨a, vs, e, (k a (by simp)).trans q, RepL.frz b (fun c z => k c (by simp [z])) r, trivial⟩
  | .dct false ks ds, _, _, k, h => by
    simp only [Rep, D.frz] at h ⊢
    obtain ⟨a, vs, e, q, l, r, e2⟩ := h
    exact ⟨a, vs, e, b.rd _ _ q, by rw [l, D.frzL_length], RepL.frz b HSame.nil r, trivial⟩
  | .dct true ks ds, _, _, k, h => by
    simp only [Rep, D.frz] at h ⊢
    obtain ⟨a, vs, fq, e, q, l, r, e2⟩ := h
    subst e2
    exact ⟨a, vs, e, .inl ((k a (by simp)).trans q), by rw [l, D.frzL_length], RepL.frz b (fun c z => k c (by simp [z])) r, trivial⟩
  | .dtt false ks ds, _, _, k, h => by
    simp only [Rep, D.frz] at h ⊢
    obtain ⟨a, vs, e, q, l, r, e2⟩ := h
    exact ⟨a, vs, e, b.rd _ _ q, by rw [l, D.frzL_length], RepL.frz b HSame.nil r, trivial⟩
  | .dtt true ks ds, _, _, k, h => by
    simp only [Rep, D.frz] at h ⊢
    obtain ⟨a, vs, fq, e, q, l, r, e2⟩ := h
    subst e2
    exact ⟨a, vs, e, .inl ((k a (by simp)).trans q), by rw [l, D.frzL_length], RepL.frz b (fun c z => k c (by simp [z])) r, trivial⟩
  | .obj false c fs ds, _, _, k, h => by
    simp only [Rep, D.frz] at h ⊢
    obtain ⟨a, dx, vs, e, q, l, r, e2⟩ := h
    exact ⟨a, dx, vs, e, b.ins _ _ _ _ q, by rw [l, D.frzL_length], RepL.frz b HSame.nil r, trivial⟩
  | .obj true c fs ds, _, _, k, h => by
    simp only [Rep, D.frz] at h ⊢
    obtain ⟨a, dx, vs, fq, e, q, l, r, e2⟩ := h
    subst e2
    exact ⟨a, dx, vs, e, (k a (by simp)).trans q, by rw [l, D.frzL_length], RepL.frz b (fun c z => k c (by simp [z])) r, trivial⟩
theorem RepL.frz (b : BLe0 B B') : ∀ {ds : List D} {vs : List V} {fp : List Addr}, HSame B' H fp → RepL K cl B H ds vs fp → RepL K cl B' H' (D.frzL ds) vs []
  | [], _, _, _, h => by simp only [RepL, D.frzL] at h ⊢; exact ⟨h.1, trivial⟩
  | d :: ds, _, _, k, h => by
    simp only [RepL, D.frzL] at h ⊢
    obtain ⟨v, vr, f1, f2, e, e2, r, rr⟩ := h
    subst e2
    exact ⟨v, vr, [], [], e, rfl, Rep.frz b (fun a z => k a (by simp [z])) r, RepL.frz b (fun a z => k a (by simp [z])) rr⟩
end
end
structure Held where
  i : Nat
  a : Addr
  d : Addr
  fs : List (Str × D)
structure Tb where
  f : Nat → Addr
  held : Option Held := none
  W : WX := fun _ _ _ _ => True
instance : CoeFun Tb (fun _ => Nat → Addr) := ⟨Tb.f⟩
instance : Coe Tb (Nat → Addr) := ⟨Tb.f⟩
abbrev tb (f : Nat → Addr) : Tb := ⟨f, none, fun _ _ _ _ => True⟩
def FldsAt (K : PySem.W.Frag) (cl : Nat → Addr) (B : Hp) (d : Addr) (fs : List (Str × D)) : Prop := ∃ l, B d = some (.xd l) ∧ ∀ p ∈ fs, ∃ v, l.lookup p.1 = some v ∧ Rep K cl B B p.2 v []
theorem FldsAt.mono {K : PySem.W.Frag} {cl : Nat → Addr} {B B' : Hp} {d : Addr} {fs : List (Str × D)} (b : BEx B B') (h : FldsAt K cl B d fs) : FldsAt K cl B' d fs := by
  obtain ⟨l, e, q⟩ := h
  refine ⟨l, b _ _ e, fun p hp => ?_⟩
  obtain ⟨v, e2, r⟩ := q p hp
  exact ⟨v, e2, r.mono b.le fun _ z => nomatch z⟩
end VI
set_option Elab.async false
set_option linter.all false
set_option maxRecDepth 100000
set_option autoImplicit false
namespace VI
open PySem L2
def ownable : HO → Bool
  | .lst _ => true
  | .dK _ => true
  | .dT _ => true
  | .ins _ _ _ => true
  | _ => false
def fot (H : Hp) (a : Addr) : Prop := H a = none ∨ ∃ vs, H a = some (.tup vs)
def NT (o : HO) : Prop := ∀ ps, o ≠ .tbl ps
def lamQ : Str := "floor_rows.<locals>.<lambda>"
structure TK (H H' : Hp) : Prop where
  grow : ∀ a ps, H a = some (.tbl ps) → ∃ more, H' a = some (.tbl (ps ++ more))
  tabs : ∀ P, LamX.TabS H P lamQ → LamX.TabS H' P lamQ
theorem TK.refl (H : Hp) : TK H H := ⟨fun a ps e => ⟨#[], by rw [Array.append_empty]; exact e⟩, fun _ t => t⟩
theorem TK.trans {H H1 H2 : Hp} (x : TK H H1) (y : TK H1 H2) : TK H H2 :=
  ⟨fun a ps e => by
    obtain ⟨m1, e1⟩ := x.grow a ps e
    obtain ⟨m2, e2⟩ := y.grow a _ e1
    exact ⟨m1 ++ m2, by rw [e2, Array.append_assoc]⟩, fun P t => y.tabs P (x.tabs P t)⟩
theorem TK.at_upd {H : Hp} {a : Addr} {o : HO} (h1 : ∀ ps, H a ≠ some (.tbl ps)) (h2 : ∀ φ, H a ≠ some (.ext φ)) : TK H (upd H a o) :=
  ⟨fun b ps e => ⟨#[], by rw [Array.append_empty, upd_ne (fun z => h1 ps (by rw [← z]; exact e))]; exact e⟩, fun P ⟨ps, e, t, k⟩ => ⟨ps, by rw [upd_ne (fun z => h1 ps (by rw [← z]; exact e))]; exact e, t, fun pos cv z => by
    obtain ⟨c, e1, e2⟩ := k pos cv z
    exact ⟨c, e1, by rw [upd_ne (fun z => h2 _ (by rw [← z]; exact e2))]; exact e2⟩⟩⟩
def TabC (cl : Nat → Addr) (H : Hp) : Prop := cl 98 = 1 → LamX.TabS H (cl 99) lamQ
theorem TabC.tk {cl : Nat → Addr} {H H' : Hp} (h : TabC cl H) (t : TK H H') : TabC cl H' := fun z => t.tabs _ (h z)
theorem TabC.no {cl : Nat → Addr} {H : Hp} (h : cl 98 ≠ 1) : TabC cl H := fun z => absurd z h
structure TKC (cl : Tb) (H H' : Hp) : Prop extends TK H H' where
  tab : TabC cl.f H'
theorem TKC.refl {cl : Tb} {H : Hp} (t : TabC cl.f H) : TKC cl H H := { toTK := TK.refl H, tab := t }
theorem TKC.trans {cl : Tb} {H H1 H2 : Hp} (x : TKC cl H H1) (y : TK H1 H2) : TKC cl H H2 := { toTK := x.toTK.trans y, tab := x.tab.tk y }
instance {cl : Tb} {H H' : Hp} : CoeOut (TKC cl H H') (TK H H') := ⟨TKC.toTK⟩
theorem TK.put {H : Hp} {a : Addr} {o o' : HO} (e : H a = some o') (w : ownable o' = true) : TK H (upd H a o) :=
  TK.at_upd (fun ps z => by rw [e] at z; cases z; cases w) (fun φ z => by rw [e] at z; cases z; cases w)
structure HEx (H H' : Hp) : Prop extends TK H H' where
  keep : ∀ a o, NT o → H a = some o → H' a = some o
theorem HEx.at_ {H H' : Hp} (h : HEx H H') {a : Addr} {o : HO} (e : H a = some o) (n : NT o := by exact fun _ z => nomatch z) : H' a = some o := h.keep a o n e
theorem HEx.plain {H H' : Hp} (h : ∀ a o, H a = some o → H' a = some o) : HEx H H' :=
  { keep := fun a o _ e => h a o e
    grow := fun a ps e => ⟨#[], by rw [Array.append_empty]; exact h _ _ e⟩
    tabs := fun P ⟨ps, e, t, k⟩ => ⟨ps, h _ _ e, t, fun pos cv z => by
      obtain ⟨c, e1, e2⟩ := k pos cv z
      exact ⟨c, e1, h _ _ e2⟩⟩ }
theorem HEx.refl (H : Hp) : HEx H H := .plain fun _ _ e => e
theorem HEx.trans {H H1 H2 : Hp} (x : HEx H H1) (y : HEx H1 H2) : HEx H H2 :=
  { toTK := x.toTK.trans y.toTK
    keep := fun a o n e => y.keep a o n (x.keep a o n e) }
theorem HEx.put {H H1 : Hp} (x : HEx H H1) {a : Addr} {o o' : HO} (h : H a = none) (e : H1 a = some o') (w : ownable o' = true) : HEx H (upd H1 a o) :=
  { toTK := x.toTK.trans (TK.put e w)
    keep := fun b u n z => by rw [upd_ne (fun y => by rw [y, h] at z; cases z)]; exact x.keep b u n z }
theorem HEx.some_ {H H' : Hp} (h : HEx H H') {a : Addr} {o : HO} (e : H a = some o) : ∃ o', H' a = some o' := by
  by_cases n : NT o
  · exact ⟨o, h.keep a o n e⟩
  · obtain ⟨ps, rfl⟩ : ∃ ps, o = .tbl ps := Classical.byContradiction fun z => n fun ps e => z ⟨ps, e⟩
    obtain ⟨more, e2⟩ := h.grow a ps e
    exact ⟨_, e2⟩
theorem NT.own {o : HO} (h : ownable o = true) : NT o := fun ps e => by subst e; cases h
theorem fot_back {H H1 : Hp} (ex : HEx H H1) {a : Addr} (h : fot H1 a) : fot H a := by
  cases q : H a with
  | none => exact .inl q
  | some o =>
    by_cases n : NT o
    · have := ex.keep a o n q
      rcases h with h | ⟨vs, h⟩
      · rw [h] at this; cases this
      · rw [h] at this; cases this; exact .inr ⟨vs, q⟩
    · obtain ⟨ps, rfl⟩ : ∃ ps, o = .tbl ps := Classical.byContradiction fun z => n fun ps e => z ⟨ps, e⟩
      obtain ⟨more, e2⟩ := ex.grow a ps q
      rcases h with h | ⟨vs, h⟩
      · rw [h] at e2; cases e2
      · rw [h] at e2; cases e2
theorem fot_own {H : Hp} {a : Addr} {o : HO} (h : fot H a) (e : H a = some o) (w : ownable o = true) : False := by
  rcases h with h | ⟨vs, h⟩
  · rw [h] at e; cases e
  · rw [h] at e; cases e; cases w
structure New (B H B' H' : Hp) : Prop where
  ex : HEx H H'
  le : BEx B B'
  sub : BLe B' H'
  nb : ∀ a, B' a ≠ none → B a ≠ none ∨ fot H a
theorem New.refl {B H : Hp} (h : BLe B H) : New B H B H := ⟨HEx.refl H, BEx.refl B, h, fun _ h => .inl h⟩
theorem New.trans {B H B1 H1 B2 H2 : Hp} (x : New B H B1 H1) (y : New B1 H1 B2 H2) : New B H B2 H2 where
  ex := x.ex.trans y.ex
  le := x.le.trans y.le
  sub := y.sub
  nb := fun a e => (y.nb a e).elim (x.nb a) fun h => .inr (fot_back x.ex h)
theorem New.own {B H : Hp} {p : Addr} {o : HO} (h : BLe B H) (hp : H p = none) : New B H B (upd H p o) where
  ex := .plain fun a u e => by rw [upd_ne (ne_of_none e hp)]; exact e
  le := BEx.refl B
  sub := h.trans (BLe.of_same fun a u e => by rw [upd_ne (ne_of_none e hp)]; exact e)
  nb := fun _ h => .inl h
theorem BLe.upd_none {B : Hp} {p : Addr} {o : HO} (h : B p = none) : BEx B (upd B p o) := fun a u e => by rw [upd_ne (ne_of_none e h)]; exact e
theorem BLe0.none_of {B H : Hp} (h : BLe0 B H) {p : Addr} (hp : H p = none) : B p = none := by
  cases q : B p with
  | none => rfl
  | some u =>
    rcases h.rd p u (.inl q) with r | ⟨o, r⟩
    · rw [hp] at r; cases r
    · rw [hp] at r; cases r
theorem New.told {B H : Hp} {p : Addr} {o : HO} (h : BLe B H) (hp : H p = none) (nt : told o = true := by rfl) : New B H (upd B p o) (upd H p o) where
  ex := .plain fun a u e => by rw [upd_ne (ne_of_none e hp)]; exact e
  le := BLe.upd_none (h.none_of hp)
  sub := by
    have hb := h.none_of hp
    refine ⟨⟨fun a u r => ?_, fun a C dx fs e => ?_, fun a vs e => ?_, fun a vs e => ?_, fun a l e => ?_⟩, fun a ps r => ?_⟩
    rotate_left 5
    · by_cases ha : a = p
      · subst ha
        rcases r with r | ⟨w, r⟩ <;> rw [upd_same] at r <;> cases r <;> cases nt
      · exact h.nt a ps (by rcases r with r | ⟨w, r⟩ <;> rw [upd_ne ha] at r; exact .inl r; exact .inr ⟨w, r⟩)
    · by_cases ha : a = p
      · subst ha
        have e1 : upd B a o a = some o := upd_same
        have e2 : upd H a o a = some o := upd_same
        rcases r with r | ⟨w, r⟩
        · rw [e1] at r; exact .inl (e2.trans r)
        · rw [e1] at r; exact .inr ⟨w, e2.trans r⟩
      · have r' : Rd B a u := by
          rcases r with r | ⟨w, r⟩
          · rw [upd_ne ha] at r; exact .inl r
          · rw [upd_ne ha] at r; exact .inr ⟨w, r⟩
        rcases h.rd a u r' with q | ⟨w, q⟩
        · exact .inl (by rw [upd_ne ha]; exact q)
        · exact .inr ⟨w, by rw [upd_ne ha]; exact q⟩
    · by_cases ha : a = p
      · subst ha; rw [upd_same] at e ⊢; exact e
      · rw [upd_ne ha] at e ⊢; exact h.ins a C dx fs e
    · by_cases ha : a = p
      · subst ha; rw [upd_same] at e ⊢; exact e
      · rw [upd_ne ha] at e ⊢; exact h.lst a vs e
    · by_cases ha : a = p
      · subst ha; rw [upd_same] at e ⊢; exact e
      · rw [upd_ne ha] at e ⊢; exact h.tup a vs e
    · by_cases ha : a = p
      · subst ha; rw [upd_same] at e ⊢; exact e
      · rw [upd_ne ha] at e ⊢; exact h.xd a l e
  nb := fun a e => by
    by_cases ha : a = p
    · exact .inr (.inl (ha ▸ hp))
    · rw [upd_ne ha] at e; exact .inl e
section
variable {K : PySem.W.Frag} {cl : Nat → Addr} {B H B' H' : Hp} {d : D} {ds : List D} {v : V} {vs : List V} {fp : List Addr}
mutual
theorem Rep.stand : ∀ {d : D} {v : V} {fp : List Addr}, Rep K cl B H d v fp → ∀ a ∈ fp, ∃ o, H a = some o
  | .non, _, _, h => by simp only [Rep] at h; rw [h.2]; exact fun _ z => nomatch z
  | .bl _, _, _, h => by simp only [Rep] at h; rw [h.2]; exact fun _ z => nomatch z
  | .int _, _, _, h => by simp only [Rep] at h; rw [h.2]; exact fun _ z => nomatch z
  | .str _, _, _, h => by simp only [Rep] at h; rw [h.2]; exact fun _ z => nomatch z
  | .tup ds, _, _, h => by simp only [Rep] at h; obtain ⟨_, _, _, _, r⟩ := h; exact RepL.stand r
  | .scr _, _, _, h => by simp only [Rep] at h; obtain ⟨_, _, _, e⟩ := h; rw [e]; exact fun _ z => nomatch z
  | .ktup _, _, _, h => by simp only [Rep] at h; obtain ⟨_, _, _, _, _, e⟩ := h; rw [e]; exact fun _ z => nomatch z
  | .exc _ _ _, _, _, h => by simp only [Rep] at h; obtain ⟨_, _, _, _, _, _, _, _, e⟩ := h; rw [e]; exact fun _ z => nomatch z
  | .hol _, _, _, h => by simp only [Rep] at h; rw [h.2]; exact fun _ z => nomatch z
  | .lsa _ ds, _, _, h => by
    simp only [Rep] at h; obtain ⟨_, _, _, _, q, r, e, _⟩ := h; subst e
    intro a z; rcases List.mem_cons.mp z with rfl | z
    · exact ⟨_, q⟩
    · exact RepL.stand r a z
  | .lst false ds, _, _, h => by simp only [Rep] at h; obtain ⟨_, _, _, _, _, e⟩ := h; rw [e]; exact fun _ z => nomatch z
  | .lst true ds, _, _, h => by
    simp only [Rep] at h; obtain ⟨_, _, _, _, q, r, e⟩ := h; subst e
    intro a z; rcases List.mem_cons.mp z with rfl | z
    · exact ⟨_, q⟩
    · exact RepL.stand r a z
  | .dct false ks ds, _, _, h => by simp only [Rep] at h; obtain ⟨_, _, _, _, _, _, e⟩ := h; rw [e]; exact fun _ z => nomatch z
  | .dct true ks ds, _, _, h => by
    simp only [Rep] at h; obtain ⟨_, _, _, _, q, _, r, e⟩ := h; subst e
    intro a z; rcases List.mem_cons.mp z with rfl | z
    · exact ⟨_, q⟩
    · exact RepL.stand r a z
  | .dtt false ks ds, _, _, h => by simp only [Rep] at h; obtain ⟨_, _, _, _, _, _, e⟩ := h; rw [e]; exact fun _ z => nomatch z
  | .dtt true ks ds, _, _, h => by
    simp only [Rep] at h; obtain ⟨_, _, _, _, q, _, r, e⟩ := h; subst e
    intro a z; rcases List.mem_cons.mp z with rfl | z
    · exact ⟨_, q⟩
    · exact RepL.stand r a z
  | .obj false c fs ds, _, _, h => by simp only [Rep] at h; obtain ⟨_, _, _, _, _, _, _, e⟩ := h; rw [e]; exact fun _ z => nomatch z
  | .obj true c fs ds, _, _, h => by
    simp only [Rep] at h; obtain ⟨_, _, _, _, _, q, _, r, e⟩ := h; subst e
    intro a z; rcases List.mem_cons.mp z with rfl | z
    · exact ⟨_, q⟩
    · exact RepL.stand r a z
theorem RepL.stand : ∀ {ds : List D} {vs : List V} {fp : List Addr}, RepL K cl B H ds vs fp → ∀ a ∈ fp, ∃ o, H a = some o
  | [], _, _, h => by simp only [RepL] at h; rw [h.2]; exact fun _ z => nomatch z
  | d :: ds, _, _, h => by
    simp only [RepL] at h
    obtain ⟨v, vr, f1, f2, _, e, r, rr⟩ := h
    subst e
    intro a z; rcases List.mem_append.mp z with z | z
    · exact Rep.stand r a z
    · exact RepL.stand rr a z
end
mutual
theorem Rep.stand' : ∀ {d : D} {v : V} {fp : List Addr}, Rep K cl B H d v fp → ∀ a ∈ fp, ∃ o, H a = some o ∧ ownable o = true
  | .non, _, _, h => by simp only [Rep] at h; rw [h.2]; exact fun _ z => nomatch z
  | .bl _, _, _, h => by simp only [Rep] at h; rw [h.2]; exact fun _ z => nomatch z
  | .int _, _, _, h => by simp only [Rep] at h; rw [h.2]; exact fun _ z => nomatch z
  | .str _, _, _, h => by simp only [Rep] at h; rw [h.2]; exact fun _ z => nomatch z
  | .tup ds, _, _, h => by simp only [Rep] at h; obtain ⟨_, _, _, _, r⟩ := h; exact RepL.stand' r
  | .scr _, _, _, h => by simp only [Rep] at h; obtain ⟨_, _, _, e⟩ := h; rw [e]; exact fun _ z => nomatch z
  | .ktup _, _, _, h => by simp only [Rep] at h; obtain ⟨_, _, _, _, _, e⟩ := h; rw [e]; exact fun _ z => nomatch z
  | .exc _ _ _, _, _, h => by simp only [Rep] at h; obtain ⟨_, _, _, _, _, _, _, _, e⟩ := h; rw [e]; exact fun _ z => nomatch z
  | .hol _, _, _, h => by simp only [Rep] at h; rw [h.2]; exact fun _ z => nomatch z
  | .lsa _ ds, _, _, h => by
    simp only [Rep] at h; obtain ⟨_, _, _, _, q, r, e, _⟩ := h; subst e
    intro a z; rcases List.mem_cons.mp z with rfl | z
    · exact ⟨_, q, rfl⟩
    · exact RepL.stand' r a z
  | .lst false ds, _, _, h => by simp only [Rep] at h; obtain ⟨_, _, _, _, _, e⟩ := h; rw [e]; exact fun _ z => nomatch z
  | .lst true ds, _, _, h => by
    simp only [Rep] at h; obtain ⟨_, _, _, _, q, r, e⟩ := h; subst e
    intro a z; rcases List.mem_cons.mp z with rfl | z
    · exact ⟨_, q, rfl⟩
    · exact RepL.stand' r a z
  | .dct false ks ds, _, _, h => by simp only [Rep] at h; obtain ⟨_, _, _, _, _, _, e⟩ := h; rw [e]; exact fun _ z => nomatch z
  | .dct true ks ds, _, _, h => by
    simp only [Rep] at h; obtain ⟨_, _, _, _, q, _, r, e⟩ := h; subst e
    intro a z; rcases List.mem_cons.mp z with rfl | z
    · exact ⟨_, q, rfl⟩
    · exact RepL.stand' r a z
  | .dtt false ks ds, _, _, h => by simp only [Rep] at h; obtain ⟨_, _, _, _, _, _, e⟩ := h; rw [e]; exact fun _ z => nomatch z
  | .dtt true ks ds, _, _, h => by
    simp only [Rep] at h; obtain ⟨_, _, _, _, q, _, r, e⟩ := h; subst e
    intro a z; rcases List.mem_cons.mp z with rfl | z
    · exact ⟨_, q, rfl⟩
    · exact RepL.stand' r a z
  | .obj false c fs ds, _, _, h => by simp only [Rep] at h; obtain ⟨_, _, _, _, _, _, _, e⟩ := h; rw [e]; exact fun _ z => nomatch z
  | .obj true c fs ds, _, _, h => by
    simp only [Rep] at h; obtain ⟨_, _, _, _, _, q, _, r, e⟩ := h; subst e
    intro a z; rcases List.mem_cons.mp z with rfl | z
    · exact ⟨_, q, rfl⟩
    · exact RepL.stand' r a z
theorem RepL.stand' : ∀ {ds : List D} {vs : List V} {fp : List Addr}, RepL K cl B H ds vs fp → ∀ a ∈ fp, ∃ o, H a = some o ∧ ownable o = true
  | [], _, _, h => by simp only [RepL] at h; rw [h.2]; exact fun _ z => nomatch z
  | d :: ds, _, _, h => by
    simp only [RepL] at h
    obtain ⟨v, vr, f1, f2, _, e, r, rr⟩ := h
    subst e
    intro a z; rcases List.mem_append.mp z with z | z
    · exact Rep.stand' r a z
    · exact RepL.stand' rr a z
end
theorem Rep.news (n : New B H B' H') (h : Rep K cl B H d v fp) : Rep K cl B' H' d v fp := h.mono n.le.le fun a z => by
  obtain ⟨o, e, w⟩ := h.stand' a z
  rw [e]; exact n.ex.keep a o (NT.own w) e
theorem RepL.news (n : New B H B' H') (h : RepL K cl B H ds vs fp) : RepL K cl B' H' ds vs fp := h.mono n.le.le fun a z => by
  obtain ⟨o, e, w⟩ := h.stand' a z
  rw [e]; exact n.ex.keep a o (NT.own w) e
theorem Rep.lst_view (s : BLe B H) {m : Bool} (h : Rep K cl B H (.lst m ds) v fp) : ∃ a vs fq, v = .ref a ∧ H a = some (.lst vs) ∧ RepL K cl B H ds vs fq ∧ ∀ a ∈ fq, a ∈ fp := by
  cases m with
  | false => simp only [Rep] at h; obtain ⟨a, vs, e, q, r, _⟩ := h; exact ⟨a, vs, [], e, s.lst _ _ q, r, (fun _ z => nomatch z)⟩
  | true => simp only [Rep] at h; obtain ⟨a, vs, fq, e, q, r, e2⟩ := h; exact ⟨a, vs, fq, e, q, r, fun a z => by simp [e2, z]⟩
theorem Rep.tup_view (s : BLe B H) (h : Rep K cl B H (.tup ds) v fp) : ∃ a vs, v = .ref a ∧ H a = some (.tup vs) ∧ RepL K cl B H ds vs fp := by
  simp only [Rep] at h; obtain ⟨a, vs, e, q, r⟩ := h; exact ⟨a, vs, e, s.tup _ _ q, r⟩
theorem Rep.ktup_view (s : BLe B H) (h : Rep K cl B H (.ktup ds) v fp) : ∃ a vs, v = .ref a ∧ SqT K H a vs ∧ RepL K cl B H ds vs [] := by
  simp only [Rep] at h; obtain ⟨a, vs, e, q, r, _⟩ := h; exact ⟨a, vs, e, s.sqT q, r⟩
theorem Rep.dct_view (s : BLe B H) {m : Bool} {ks : List Key} (h : Rep K cl B H (.dct m ks ds) v fp) : ∃ a vs fq, v = .ref a ∧ Rd H a (.dK (ks.zip vs)) ∧ ks.length = ds.length ∧ RepL K cl B H ds vs fq := by
  cases m with
  | false => simp only [Rep] at h; obtain ⟨a, vs, e, q, l, r, _⟩ := h; exact ⟨a, vs, [], e, s.rd _ _ q, l, r⟩
  | true => simp only [Rep] at h; obtain ⟨a, vs, fq, e, q, l, r, _⟩ := h; exact ⟨a, vs, fq, e, .inl q, l, r⟩
theorem Rep.dtt_view (s : BLe B H) {m : Bool} {ks : List (List Key)} (h : Rep K cl B H (.dtt m ks ds) v fp) : ∃ a vs fq, v = .ref a ∧ Rd H a (.dT (ks.zip vs)) ∧ ks.length = ds.length ∧ RepL K cl B H ds vs fq := by
  cases m with
  | false => simp only [Rep] at h; obtain ⟨a, vs, e, q, l, r, _⟩ := h; exact ⟨a, vs, [], e, s.rd _ _ q, l, r⟩
  | true => simp only [Rep] at h; obtain ⟨a, vs, fq, e, q, l, r, _⟩ := h; exact ⟨a, vs, fq, e, .inl q, l, r⟩
theorem Rep.obj_view (s : BLe B H) {m : Bool} {c : Nat} {fs : List Str} (h : Rep K cl B H (.obj m c fs ds) v fp) : ∃ a dx vs fq, v = .ref a ∧ H a = some (.ins (cl c) dx (fs.zip vs)) ∧ fs.length = ds.length ∧ RepL K cl B H ds vs fq := by
  cases m with
  | false => simp only [Rep] at h; obtain ⟨a, dx, vs, e, q, l, r, _⟩ := h; exact ⟨a, dx, vs, [], e, s.ins _ _ _ _ q, l, r⟩
  | true => simp only [Rep] at h; obtain ⟨a, dx, vs, fq, e, q, l, r, _⟩ := h; exact ⟨a, dx, vs, fq, e, q, l, r⟩
theorem RepL.get : ∀ {ds : List D} {vs : List V} {fp : List Addr}, RepL K cl B H ds vs fp → ∀ {i : Nat} {d : D}, ds[i]? = some d → ∃ v f, vs[i]? = some v ∧ Rep K cl B H d v f ∧ ∀ a ∈ f, a ∈ fp
  | [], _, _, _, _, _, e => by simp at e
  | d :: ds, _, _, h, i, d', e => by
    simp only [RepL] at h
    obtain ⟨v, vr, f1, f2, e1, e2, r, rr⟩ := h
    subst e1 e2
    cases i with
    | zero => simp at e; subst e; exact ⟨v, f1, rfl, r, fun a z => by simp [z]⟩
    | succ i =>
      obtain ⟨v', f, q1, q2, q3⟩ := RepL.get rr (i := i) (by simpa using e)
      exact ⟨v', f, by simpa using q1, q2, fun a z => by simp [q3 a z]⟩
theorem zip_val {κ : Type} [DecidableEq κ] : ∀ {ks : List κ} {ds : List D} {vs : List V} {fp : List Addr}, ks.length = ds.length → RepL K cl B H ds vs fp → ∀ (k : κ),
    (∀ d, ((ks.zip ds).find? fun p => decide (p.1 = k)).map (·.2) = some d → ∃ v f, valV (ks.zip vs) k = some v ∧ Rep K cl B H d v f ∧ ∀ a ∈ f, a ∈ fp) ∧
    (((ks.zip ds).find? fun p => decide (p.1 = k)) = none → valV (ks.zip vs) k = none)
  | [], [], _, _, _, h, k => by simp only [RepL] at h; rw [h.1]; exact ⟨fun d e => by simp at e, fun _ => rfl⟩
  | [], _ :: _, _, _, l, _, _ => by simp at l
  | _ :: _, [], _, _, l, _, _ => by simp at l
  | k' :: ks, d' :: ds, _, _, l, h, k => by
    simp only [RepL] at h
    obtain ⟨v, vr, f1, f2, e1, e2, r, rr⟩ := h
    subst e1 e2
    have ih := zip_val (ks := ks) (ds := ds) (by simpa using l) rr k
    rw [List.zip_cons_cons, List.zip_cons_cons]
    by_cases hk : k' = k
    · rw [valV_pos (p := (k', v)) hk, List.find?_cons_of_pos (by simpa using hk)]
      refine ⟨fun d e => ?_, fun e => by cases e⟩
      simp at e; subst e
      exact ⟨v, f1, rfl, r, fun a z => by simp [z]⟩
    · rw [valV_neg (p := (k', v)) hk, List.find?_cons_of_neg (by simpa using hk)]
      refine ⟨fun d e => ?_, ih.2⟩
      obtain ⟨w, f, q1, q2, q3⟩ := ih.1 d e
      exact ⟨w, f, q1, q2, fun a z => by simp [q3 a z]⟩
end
def look {κ : Type} [DecidableEq κ] (ks : List κ) (ds : List D) (k : κ) : Option D := ((ks.zip ds).find? fun p => decide (p.1 = k)).map (·.2)
theorem look_none {κ : Type} [DecidableEq κ] {ks : List κ} {ds : List D} {k : κ} : look ks ds k = none ↔ ((ks.zip ds).find? fun p => decide (p.1 = k)) = none := by
  unfold look; simp
abbrev Ev := List (Option D)
structure REnv (K : PySem.W.Frag) (cl : Tb) (B H : Hp) (σ : St) (A : Ev) : Prop where
  sub : BLe B H
  at_ : ∀ (i : Nat) (d : D), A[i]? = some (some d) → ∃ v fp, σ[i]? = some (some v) ∧ Rep K cl B H d v fp
  hx : ∀ z, cl.held = some z → σ[z.i]? = some (some (.ref z.a)) ∧ FldsAt K cl B z.d z.fs
  tab : TabC cl.f H
theorem REnv.news {K : PySem.W.Frag} {cl : Tb} {B H B' H' : Hp} {σ : St} {A : Ev} (n : New B H B' H') (r : REnv K cl B H σ A) : REnv K cl B' H' σ A :=
  ⟨n.sub, fun i d e => let ⟨v, fp, e1, q⟩ := r.at_ i d e; ⟨v, fp, e1, q.news n⟩, fun z e => ⟨(r.hx z e).1, (r.hx z e).2.mono n.le⟩, r.tab.tk n.ex.toTK⟩
structure Fresh (H B' : Hp) (fp : List Addr) : Prop where
  nd : fp.Nodup
  nh : ∀ a ∈ fp, H a = none
  nb : ∀ a ∈ fp, B' a = none
theorem Fresh.nil {H B' : Hp} : Fresh H B' [] := ⟨List.nodup_nil, (fun _ z => nomatch z), (fun _ z => nomatch z)⟩
theorem none_back {H H1 : Hp} (ex : HEx H H1) {a : Addr} (h : H1 a = none) : H a = none := by
  cases q : H a with
  | none => rfl
  | some o =>
    obtain ⟨o', e⟩ := ex.some_ q
    rw [e] at h; cases h
theorem Fresh.news {H B1 H1 B2 H2 : Hp} {fp : List Addr} (f : Fresh H B1 fp) (n : New B1 H1 B2 H2) (st : ∀ a ∈ fp, ∃ o, H1 a = some o ∧ ownable o = true) : Fresh H B2 fp :=
  ⟨f.nd, f.nh, fun a z => by
    cases q : B2 a with
    | none => rfl
    | some u =>
      rcases n.nb a (by rw [q]; exact fun e => nomatch e) with r | r
      · exact absurd (f.nb a z) r
      · obtain ⟨o, e, w⟩ := st a z; exact (fot_own r e w).elim⟩
section
variable (X : Cx) (cl : Tb)
def EvV (e : Expr) (m : Ev → Option D) : Prop := ∃ t : TE, PE X e t ∧ ∀ σ A B H, REnv X.K cl B H σ A → ∀ d, m A = some d → ∀ Q : VK, (∀ v B' H' fp, New B H B' H' → Rep X.K cl B' H' d v fp → Q v H') → t σ H Q
def EvD (e : Expr) (m : Ev → Option D) : Prop := ∃ t : TE, PE X e t ∧ ∀ σ A B H, REnv X.K cl B H σ A → ∀ d, m A = some d → ∀ Q : VK, (∀ v B' H' fp, New B H B' H' → Rep X.K cl B' H' d v fp → Fresh H B' fp → Q v H') → t σ H Q
def EvT (e : Expr) (m : Ev → Option Bool) : Prop := ∃ t : TT, PT X e t ∧ ∀ σ A B H, REnv X.K cl B H σ A → ∀ b, m A = some b → ∀ Q : Bool → Hp → Prop, (∀ B' H', New B H B' H' → Q b H') → t σ H Q
def EvW (e : Expr) (m : Ev → Option Bool) : Prop := ∃ t : TT, PW X e t ∧ ∀ σ A B H, REnv X.K cl B H σ A → ∀ b, m A = some b → ∀ Q : Bool → Hp → Prop, (∀ B' H', New B H B' H' → Q b H') → t σ H Q
def EvA (es : List Expr) (m : Ev → Option (List D)) : Prop := ∃ t : TA, PA X es t ∧ ∀ σ A B H, REnv X.K cl B H σ A → ∀ ds, m A = some ds → ∀ Q : List V → Hp → Prop, (∀ vs B' H' fp, New B H B' H' → RepL X.K cl B' H' ds vs fp → Q vs H') → t σ H Q
def EvAD (es : List Expr) (m : Ev → Option (List D)) : Prop := ∃ t : TA, PA X es t ∧ ∀ σ A B H, REnv X.K cl B H σ A → ∀ ds, m A = some ds → ∀ Q : List V → Hp → Prop, (∀ vs B' H' fp, New B H B' H' → RepL X.K cl B' H' ds vs fp → Fresh H B' fp → Q vs H') → t σ H Q
end
section
variable {X : Cx} {cl : Tb} {e a b c : Expr} {es : List Expr} {m ma mb mc : Ev → Option D} {pos : Pos}
theorem EvD.v (h : EvD X cl e m) : EvV X cl e m := by
  obtain ⟨t, p, r⟩ := h
  exact ⟨t, p, fun σ A B H R d e Q q => r σ A B H R d e Q fun v B' H' fp n rp _ => q v B' H' fp n rp⟩
def mP (m : Ev → Option D) : Ev → Option D := fun A => (m A).bind fun d => if d.plain = true then some d else none
theorem EvV.d (h : EvV X cl e m) : EvD X cl e (mP m) := by
  obtain ⟨t, p, r⟩ := h
  refine ⟨t, p, fun σ A B H R d e Q q => ?_⟩
  unfold mP at e
  cases hm : m A with
  | none => rw [hm] at e; cases e
  | some d' =>
    rw [hm] at e
    simp only [Option.bind_some] at e
    by_cases hp : d'.plain = true
    · rw [if_pos hp] at e; cases e
      refine r σ A B H R d hm Q fun v B' H' fp n rp => ?_
      have := Rep.plain hp rp
      subst this
      exact q v B' H' [] n rp Fresh.nil
    · rw [if_neg hp] at e; cases e
def mV (i : Nat) : Ev → Option D := fun A => A[i]?.join
theorem ev_var {i : Nat} (h : PE X e (tVar i)) : EvV X cl e (mV i) := by
  refine ⟨_, h, fun σ A B H R d hd Q q => ?_⟩
  obtain ⟨v, fp, e1, r⟩ := R.at_ i d (by
    unfold mV at hd
    cases q : A[i]? with
    | none => rw [q] at hd; cases hd
    | some o => rw [q] at hd; cases o with
      | none => cases hd
      | some d' => cases hd; rfl)
  exact ⟨v, e1, q v B H fp (New.refl R.sub) r⟩
def mC (d : D) : Ev → Option D := fun _ => some d
theorem ev_const {v : V} {d : D} (h : PE X e (tC v)) (hr : ∀ B H, BLe B H → Rep X.K cl B H d v []) : EvD X cl e (mC d) := by
  refine ⟨_, h, fun σ A B H R d' hd Q q => ?_⟩
  cases hd
  exact q v B H [] (New.refl R.sub) (hr B H R.sub) Fresh.nil
theorem ev_int {i j} : EvD X cl (.Constant (.int i) j pos) (mC (.int i)) := ev_const pe_int fun _ _ _ => by simp only [Rep]; exact ⟨trivial, trivial⟩
theorem ev_bl {b j} : EvD X cl (.Constant (.bool b) j pos) (mC (.bl b)) := ev_const pe_bl fun _ _ _ => by simp only [Rep]; exact ⟨trivial, trivial⟩
theorem ev_str {x j} : EvD X cl (.Constant (.str x) j pos) (mC (.str x)) := ev_const pe_str fun _ _ _ => by simp only [Rep]; exact ⟨trivial, trivial⟩
def mOp {α : Type} (g : D → D → Option α) (ma mb : Ev → Option D) : Ev → Option α := fun A => (ma A).bind fun x => (mb A).bind fun y => g x y
theorem mOp_some {α : Type} {g : D → D → Option α} {A : Ev} {d : α} (h : mOp g ma mb A = some d) : ∃ x y, ma A = some x ∧ mb A = some y ∧ g x y = some d := by
  unfold mOp at h
  cases h1 : ma A with
  | none => rw [h1] at h; cases h
  | some x =>
    rw [h1] at h
    simp only [Option.bind_some] at h
    cases h2 : mb A with
    | none => rw [h2] at h; cases h
    | some y => rw [h2] at h; exact ⟨x, y, rfl, rfl, h⟩
theorem two {ta tb : TE} (ra : ∀ σ A B H, REnv X.K cl B H σ A → ∀ d, ma A = some d → ∀ Q : VK, (∀ v B' H' fp, New B H B' H' → Rep X.K cl B' H' d v fp → Q v H') → ta σ H Q)
    (rb : ∀ σ A B H, REnv X.K cl B H σ A → ∀ d, mb A = some d → ∀ Q : VK, (∀ v B' H' fp, New B H B' H' → Rep X.K cl B' H' d v fp → Q v H') → tb σ H Q)
    {σ : St} {A : Ev} {B H : Hp} (R : REnv X.K cl B H σ A) {x y : D} (hx : ma A = some x) (hy : mb A = some y) {P : V → V → Hp → Prop}
    (k : ∀ u v B' H' f1 f2, New B H B' H' → Rep X.K cl B' H' x u f1 → Rep X.K cl B' H' y v f2 → P u v H') : ta σ H fun u H1 => tb σ H1 fun v H2 => P u v H2 :=
  ra σ A B H R x hx _ fun u B1 H1 f1 n1 r1 => rb σ A B1 H1 (R.news n1) y hy _ fun v B2 H2 f2 n2 r2 => k u v B2 H2 f1 f2 (n1.trans n2) (r1.news n2) r2
structure BLt (cl : Tb) (B H : Hp) : Prop extends BLe B H where
  tab : TabC cl.f H
instance {cl : Tb} {B H : Hp} : CoeOut (BLt cl B H) (BLe B H) := ⟨BLt.toBLe⟩
theorem REnv.blt {K : PySem.W.Frag} {cl : Tb} {B H B' H' : Hp} {σ : St} {A : Ev} (R : REnv K cl B H σ A) (n : New B H B' H') : BLt cl B' H' := { toBLe := n.sub, tab := R.tab.tk n.ex.toTK }
def OpD (X : Cx) (cl : Tb) (r : R2) (g : D → D → Option D) : Prop :=
  ∀ (B H : Hp) (x y d : D) (u v : V) (f1 f2 : List Addr), BLt cl B H → Rep X.K cl B H x u f1 → Rep X.K cl B H y v f2 → g x y = some d → ∀ Q : VK, (∀ w B' H' fp, New B H B' H' → Rep X.K cl B' H' d w fp → Fresh H B' fp → Q w H') → r u v H Q
theorem fresh_trans {B H B1 H1 B2 : Hp} {fp : List Addr} (n : New B H B1 H1) (f : Fresh H1 B2 fp) : Fresh H B2 fp := ⟨f.nd, fun a z => none_back n.ex (f.nh a z), f.nb⟩
theorem ev_op {op : Operator} {r : R2} {g : D → D → Option D} (ho : OpR X (binaryOp op) r) (hd : OpD X cl r g) (ha : EvV X cl a ma) (hb : EvV X cl b mb) : EvD X cl (.BinOp a op b pos) (mOp g ma mb) := by
  obtain ⟨ta, pa, ra⟩ := ha
  obtain ⟨tb, pb, rb⟩ := hb
  refine ⟨_, pe_op ho pa pb, fun σ A B H R d e Q q => ?_⟩
  obtain ⟨x, y, hx, hy, hg⟩ := mOp_some e
  exact two ra rb R hx hy fun u v B' H' f1 f2 n r1 r2 => hd B' H' x y d u v f1 f2 (R.blt n) r1 r2 hg Q fun w B2 H2 fp n2 rw f => q w B2 H2 fp (n.trans n2) rw (fresh_trans n f)
theorem ev_cmp {op : CmpOp} {r : R2} {g : D → D → Option D} (ho : OpR X (compareOp op) r) (hd : OpD X cl r g) (ha : EvV X cl a ma) (hb : EvV X cl b mb) (hm : behindInMarks op b = false) : EvD X cl (.Compare a [op] [b] pos) (mOp g ma mb) := by
  obtain ⟨ta, pa, ra⟩ := ha
  obtain ⟨tb, pb, rb⟩ := hb
  refine ⟨_, pe_cmpR ho pa pb hm, fun σ A B H R d e Q q => ?_⟩
  obtain ⟨x, y, hx, hy, hg⟩ := mOp_some e
  exact two ra rb R hx hy fun u v B' H' f1 f2 n r1 r2 => hd B' H' x y d u v f1 f2 (R.blt n) r1 r2 hg Q fun w B2 H2 fp n2 rw f => q w B2 H2 fp (n.trans n2) rw (fresh_trans n f)
def mT (m : Ev → Option D) : Ev → Option Bool := fun A => match m A with
  | some (.bl b) => some b
  | _ => none
theorem mT_some {A : Ev} {b : Bool} (h : mT m A = some b) : m A = some (.bl b) := by
  unfold mT at h
  split at h
  · rename_i b' e; cases h; exact e
  · cases h
theorem ev_test {op : CmpOp} {r : R2} {g : D → D → Option D} (ho : OpR X (compareOp op) r) (hd : OpD X cl r g) (ha : EvV X cl a ma) (hb : EvV X cl b mb) (hm : behindInMarks op b = false) : EvT X cl (.Compare a [op] [b] pos) (mT (mOp g ma mb)) := by
  obtain ⟨ta, pa, ra⟩ := ha
  obtain ⟨tb, pb, rb⟩ := hb
  refine ⟨_, pt_cmpR ho pa pb hm, fun σ A B H R k e Q q => ?_⟩
  obtain ⟨x, y, hx, hy, hg⟩ := mOp_some (mT_some e)
  exact two ra rb R hx hy fun u v B' H' f1 f2 n r1 r2 => hd B' H' x y _ u v f1 f2 (R.blt n) r1 r2 hg _ fun w B2 H2 fp n2 rw f => by
    simp only [Rep] at rw
    exact ⟨k, rw.1, q B2 H2 (n.trans n2)⟩
def truth : D → Option Bool
  | .non => some false
  | .bl b => some b
  | .int i => some (i != 0)
  | .str s => if s.length ≤ sizeLine then some ((s.length : Int) != 0) else none
  | .lst _ xs => some (!xs.isEmpty)
  | .tup xs => some (!xs.isEmpty)
  | _ => none
def mTr (m : Ev → Option D) : Ev → Option Bool := fun A => (m A).bind truth
theorem RepL.isEmpty {cl : Nat → Addr} {K : PySem.W.Frag} {B H : Hp} {ds : List D} {vs : List V} {fp : List Addr} (h : RepL K cl B H ds vs fp) : vs.isEmpty = ds.isEmpty := by
  have := h.length
  cases ds <;> cases vs <;> simp_all
theorem ev_truth (h : EvV X cl e m) (he : ∀ whole, isTrue e X.env whole = (do let v ← whole; standAt e.pos; holding [v] (truthy v))) : EvT X cl e (mTr m) := by
  obtain ⟨t, p, r⟩ := h
  refine ⟨_, pt_truth p he, fun σ A B H R k e Q q => ?_⟩
  unfold mTr at e
  cases hm : m A with
  | none => rw [hm] at e; cases e
  | some d =>
    rw [hm] at e
    simp only [Option.bind_some] at e
    refine r σ A B H R _ hm _ fun v B' H' fp n rp => ⟨k, ?_, q B' H' n⟩
    cases d with
    | non => simp only [Rep] at rp; rw [rp.1]; cases e; exact rfl
    | bl b => simp only [Rep] at rp; rw [rp.1]; cases e; exact rfl
    | int b => simp only [Rep] at rp; rw [rp.1]; cases e; exact rfl
    | str b =>
      simp only [Rep] at rp; rw [rp.1]
      simp only [truth] at e
      by_cases hl : b.length ≤ sizeLine
      · rw [if_pos hl] at e; cases e; exact ⟨hl, rfl⟩
      · rw [if_neg hl] at e; cases e
    | lst mm xs =>
      obtain ⟨a, vs, fq, e1, q1, q2, _⟩ := rp.lst_view n.sub
      subst e1; cases e
      exact .inl ⟨vs, .of q1, by rw [q2.isEmpty]⟩
    | tup xs =>
      obtain ⟨a, vs, e1, q1, q2⟩ := rp.tup_view n.sub
      subst e1; cases e
      exact .inr (.inl ⟨vs, .of q1, by rw [q2.isEmpty]⟩)
    | _ => cases e
def mAnd (ta tb : Ev → Option Bool) : Ev → Option Bool := fun A => (ta A).bind fun x => if x = true then tb A else some false
def mOr (ta tb : Ev → Option Bool) : Ev → Option Bool := fun A => (ta A).bind fun x => if x = true then some true else tb A
def mNot (ta : Ev → Option Bool) : Ev → Option Bool := fun A => (ta A).map fun x => !x
variable {na nb : Ev → Option Bool} {rest : List Expr}
theorem EvW.t (h : EvW X cl e na) : EvT X cl e na := by
  obtain ⟨t, p, r⟩ := h
  exact ⟨t, p.pt, r⟩
theorem ew_and1 (ha : EvT X cl a na) : EvW X cl (.BoolOp .And [a] pos) na := by
  obtain ⟨t, p, r⟩ := ha
  exact ⟨t, pw_and1 p, r⟩
theorem ew_or1 (ha : EvT X cl a na) : EvW X cl (.BoolOp .Or [a] pos) na := by
  obtain ⟨t, p, r⟩ := ha
  exact ⟨t, pw_or1 p, r⟩
theorem ew_and (ha : EvT X cl a na) (hb : EvW X cl (.BoolOp .And (b :: rest) pos) nb) : EvW X cl (.BoolOp .And (a :: b :: rest) pos) (mAnd na nb) := by
  obtain ⟨t, p, r⟩ := ha
  obtain ⟨t2, p2, r2⟩ := hb
  refine ⟨_, pw_and p p2, fun σ A B H R k e Q q => ?_⟩
  unfold mAnd at e
  cases h1 : na A with
  | none => rw [h1] at e; cases e
  | some x =>
    rw [h1] at e
    simp only [Option.bind_some] at e
    refine r σ A B H R x h1 _ fun B1 H1 n1 => ?_
    cases x with
    | true => rw [if_pos rfl] at e ⊢; exact r2 σ A B1 H1 (R.news n1) k e Q fun B2 H2 n2 => q B2 H2 (n1.trans n2)
    | false => rw [if_neg Bool.false_ne_true] at e ⊢; cases e; exact q B1 H1 n1
theorem ew_or (ha : EvT X cl a na) (hb : EvW X cl (.BoolOp .Or (b :: rest) pos) nb) : EvW X cl (.BoolOp .Or (a :: b :: rest) pos) (mOr na nb) := by
  obtain ⟨t, p, r⟩ := ha
  obtain ⟨t2, p2, r2⟩ := hb
  refine ⟨_, pw_or p p2, fun σ A B H R k e Q q => ?_⟩
  unfold mOr at e
  cases h1 : na A with
  | none => rw [h1] at e; cases e
  | some x =>
    rw [h1] at e
    simp only [Option.bind_some] at e
    refine r σ A B H R x h1 _ fun B1 H1 n1 => ?_
    cases x with
    | true => rw [if_pos rfl] at e ⊢; cases e; exact q B1 H1 n1
    | false => rw [if_neg Bool.false_ne_true] at e ⊢; exact r2 σ A B1 H1 (R.news n1) k e Q fun B2 H2 n2 => q B2 H2 (n1.trans n2)
theorem et_not (ha : EvT X cl a na) : EvT X cl (.UnaryOp .Not a pos) (mNot na) := by
  obtain ⟨t, p, r⟩ := ha
  refine ⟨_, pt_not p, fun σ A B H R k e Q q => ?_⟩
  unfold mNot at e
  cases h1 : na A with
  | none => rw [h1] at e; cases e
  | some x =>
    rw [h1] at e; cases e
    exact r σ A B H R x h1 _ fun B1 H1 n1 => q B1 H1 n1
theorem ev_one {op} (h : EvD X cl a m) : EvD X cl (.BoolOp op [a] pos) m := by
  obtain ⟨t, p, r⟩ := h
  exact ⟨t, pe_one p, r⟩
def mAndV (ta tb : Ev → Option D) : Ev → Option D := fun A => (mT ta A).bind fun x => if x = true then tb A else some (.bl false)
def mOrV (ta tb : Ev → Option D) : Ev → Option D := fun A => (mT ta A).bind fun x => if x = true then some (.bl true) else tb A
theorem ev_and (ha : EvV X cl a ma) (hb : EvD X cl (.BoolOp .And (b :: rest) pos) mb) : EvD X cl (.BoolOp .And (a :: b :: rest) pos) (mAndV ma mb) := by
  obtain ⟨t, p, r⟩ := ha
  obtain ⟨t2, p2, r2⟩ := hb
  refine ⟨_, pe_and p p2, fun σ A B H R k e Q q => ?_⟩
  unfold mAndV at e
  cases h1 : mT ma A with
  | none => rw [h1] at e; cases e
  | some x =>
    rw [h1] at e
    simp only [Option.bind_some] at e
    refine r σ A B H R _ (mT_some h1) _ fun v B1 H1 fp n1 rp => ?_
    simp only [Rep] at rp
    refine ⟨x, rp.1, ?_⟩
    cases x with
    | true => rw [if_pos rfl] at e ⊢; exact r2 σ A B1 H1 (R.news n1) k e Q fun v B2 H2 fp n2 rp f => q v B2 H2 fp (n1.trans n2) rp (fresh_trans n1 f)
    | false => rw [if_neg Bool.false_ne_true] at e ⊢; cases e; exact q _ B1 H1 [] n1 (by simp only [Rep]; exact ⟨trivial, trivial⟩) Fresh.nil
def mNotV (ta : Ev → Option D) : Ev → Option D := fun A => (mT ta A).map fun x => .bl (!x)
theorem ev_not (ha : EvV X cl a ma) : EvD X cl (.UnaryOp .Not a pos) (mNotV ma) := by
  obtain ⟨t, p, r⟩ := ha
  refine ⟨_, pe_not p, fun σ A B H R k e Q q => ?_⟩
  unfold mNotV at e
  cases h1 : mT ma A with
  | none => rw [h1] at e; cases e
  | some x =>
    rw [h1] at e; cases e
    refine r σ A B H R _ (mT_some h1) _ fun v B1 H1 fp n1 rp => ?_
    simp only [Rep] at rp
    exact ⟨x, rp.1, q _ B1 H1 [] n1 (by simp only [Rep]; exact ⟨trivial, trivial⟩) Fresh.nil⟩
def mIf (t : Ev → Option Bool) (ma mb : Ev → Option D) : Ev → Option D := fun A => (t A).bind fun x => if x = true then ma A else mb A
end
end VI
set_option Elab.async false
set_option linter.all false
set_option maxRecDepth 100000
set_option autoImplicit false
namespace VI
open PySem L2 PyProof.Rows PyProof.V
section
variable {prog : Program} {w : World} {K : Type} [DecidableEq K] {knd : HeapKind prog w K} {A : Around} {E : Value → Shared → Prop} {s : Shared}
theorem pairsT {nm : String} {a b : Addr} {xa xb : List (K × Addr × Value)} {Q : Bool → Shared → Prop} (ha : (a == sysModules) = false) (hb : (b == sysModules) = false) (hu : knd.room A)
    (da : s.heap.DictOfH knd a xa) (db : s.heap.DictOfH knd b xb) (hlen : xa.length = xb.length) (hits : ∀ x ∈ xa, ∃ (j : Nat) (p : Addr × Value), xb[j]? = some (x.1, p) ∧ SeqAt.EqAt A s x.2.2 p.2 true) (h : Q true s) :
    wpAny (model prog w) A (Builtin.Dict.samePairs nm a b) Q E s := by
  obtain ⟨oa, es, ep, hoa, _, hda, hea, hka, hna⟩ := da
  obtain ⟨ob, es', ep', hob, _, hdb, heb, hkb, hnb⟩ := db
  have hla : es.size = xa.length := size_of_entries hea
  have hlb : es'.size = xb.length := size_of_entries heb
  have hsz : es.size = es'.size := by omega
  unfold Builtin.Dict.samePairs Builtin.Dict.showsAll
  rw [if_neg (show ¬ (a == sysModules) = true by rw [ha]; exact Bool.false_ne_true), if_neg (show ¬ (b == sysModules) = true by rw [hb]; exact Bool.false_ne_true)]
  refine wpAny_bind (wpAny_pure (wpAny_bind (wpAny_pure ?_)))
  refine wpAny_bind (wpAny_dictEntries hoa hda ?_)
  dsimp only
  refine wpAny_bind (wpAny_dictEntries hob hdb ?_)
  rw [if_neg (by rw [hsz]; simp)]
  refine wpAny_bind (wpAny_dictEpoch hoa hda ?_)
  refine wpAny_bind ?_
  rw [Std.Legacy.Range.forIn_eq_forIn_range']
  simp only [Std.Legacy.Range.size, Nat.sub_zero, Nat.add_sub_cancel, Nat.div_one]
  refine wpAny_forIn_list _
    (fun rest q s' => s' = s ∧ q = (none, ()) ∧ ∃ i, rest = List.range' i (es.size - i) ∧ i ≤ es.size)
    _ ?_ ?_ _ _ ⟨rfl, rfl, 0, by simp, Nat.zero_le _⟩
  · rintro x rest q s' ⟨rfl, rfl, i, hr, hi⟩
    have hlt : i < es.size := by
      rcases Nat.lt_or_ge i es.size with h | h
      · exact h
      · rw [Nat.sub_eq_zero_of_le h] at hr; simp at hr
    obtain ⟨rfl, hrest⟩ : x = i ∧ rest = List.range' (i + 1) (es.size - (i + 1)) := by
      have e : es.size - i = (es.size - (i + 1)) + 1 := by omega
      rw [e, List.range'_succ] at hr
      injection hr with h1 h2
      exact ⟨h1, h2⟩
    refine wpAny_bind (wpAny_dictEntries hoa hda ?_)
    have hlt' : x < xa.length := by omega
    obtain ⟨⟨k, p⟩, hkp⟩ : ∃ y, xa[x]? = some y := ⟨xa[x], List.getElem?_eq_getElem hlt'⟩
    have hent : es[x]? = some (entryOfKey knd (k, p)) := by rw [entry_at hea x, hkp]; rfl
    rw [hent]
    have hmem := List.mem_of_getElem? hkp
    obtain ⟨j, p', hj, he⟩ := hits _ hmem
    refine wpAny_bind (wpAny_holding (wpAny_bind (wpAny_dictFind_heap (knd := knd) (k := k) (a := p.1) hu (hka _ hmem) hob hdb heb hkb hnb ?_ ?_)))
    · exact fun hno => absurd hj (hno j p')
    · intro j2 p2 hj2
      have hjj : j2 = j := idxH_unique hnb hj2 hj
      subst hjj
      rw [hj] at hj2
      have hp2 : p' = p2 := by injection hj2 with z; injection z
      subst hp2
      refine wpAny_bind (wpAny_dictEntries hob hdb ?_)
      have hent' : es'[j2]? = some (entryOfKey knd (k, p')) := by rw [entry_at heb j2, hj]; rfl
      rw [hent']
      refine wpAny_holding (he prog w _ _ ?_)
      show wpAny _ _ (if (!true) = true then _ else _) _ _ _
      rw [if_neg (by decide)]
      refine wpAny_bind (wpAny_dictEpoch hoa hda ?_)
      rw [if_neg (by simp)]
      exact wpAny_pure ⟨rfl, rfl, x + 1, hrest, hlt⟩
  · rintro q s' ⟨rfl, rfl, i, hr, hi⟩
    exact wpAny_pure h
end
section
variable {prog : Program} {w : World} {K : Type} [DecidableEq K] {knd : HeapKind prog w K} {A : Around} {E : Value → Shared → Prop} {s : Shared}
theorem eqT {a b : Addr} {xa xb : List (K × Addr × Value)} {Q : Value → Shared → Prop} (ha : (a == sysModules) = false) (hb : (b == sysModules) = false) (hr : knd.room A.in1) (hu : A.units < cLine)
    (da : s.heap.DictOfH knd a xa) (db : s.heap.DictOfH knd b xb) (hlen : xa.length = xb.length) (hits : ∀ x ∈ xa, ∃ (j : Nat) (p : Addr × Value), xb[j]? = some (x.1, p) ∧ SeqAt.EqAt A.in1 s x.2.2 p.2 true) (h : Q (.bool true) s) :
    wpAny (model prog w) A (compareOp .Eq (.ref a) (.ref b)) Q E s := by
  refine wpAny_richCompare_same_room (op := .Eq) da.typeIs db.typeIs PySem.F.slot_dict_eq (wpAny_call_entry PySem.F.slot_dict_eq da.typeIs PySem.F.entry_dict_eq ?_ (PySem.F.args_dict_eq_2 _ _)) hu
  show wpAny _ _ (Builtin.Dict.dictSlotArgs "__eq__" ⟨[.ref a, .ref b], []⟩ >>= _) _ _ s
  refine wpAny_bind ?_
  unfold Builtin.Dict.dictSlotArgs
  refine wpAny_bind (wpAny_notOrdered_dict da.typeIs ?_)
  show wpAny _ _ (pure (Value.ref a, Value.ref b)) _ _ s
  refine wpAny_pure ?_
  refine wpAny_bind (wpAny_isInstance (T := "dict") db.typeIs PySem.F.sub_dict_dict ?_)
  simp only [Bool.not_true, Bool.false_eq_true, if_false]
  refine wpAny_bind (wpAny_pure (wpAny_bind (wpAny_pure ?_)))
  refine wpAny_bind (pairsT ha hb hr da db hlen hits ?_)
  refine wpAny_pure ⟨_, rfl, ?_, ?_⟩
  · exact fun x => nomatch x
  · simpa using h
theorem neT {a b : Addr} {xa xb : List (K × Addr × Value)} {Q : Value → Shared → Prop} (ha : (a == sysModules) = false) (hb : (b == sysModules) = false) (hr : knd.room A.in1) (hu : A.units < cLine)
    (da : s.heap.DictOfH knd a xa) (db : s.heap.DictOfH knd b xb) (hlen : xa.length = xb.length) (hits : ∀ x ∈ xa, ∃ (j : Nat) (p : Addr × Value), xb[j]? = some (x.1, p) ∧ SeqAt.EqAt A.in1 s x.2.2 p.2 true) (h : Q (.bool false) s) :
    wpAny (model prog w) A (compareOp .NotEq (.ref a) (.ref b)) Q E s := by
  refine wpAny_richCompare_same_room (op := .NotEq) da.typeIs db.typeIs PySem.F.slot_dict_ne (wpAny_call_entry PySem.F.slot_dict_ne da.typeIs PySem.F.entry_dict_ne ?_ (PySem.F.args_dict_ne_2 _ _)) hu
  show wpAny _ _ (Builtin.Dict.dictSlotArgs "__ne__" ⟨[.ref a, .ref b], []⟩ >>= _) _ _ s
  refine wpAny_bind ?_
  unfold Builtin.Dict.dictSlotArgs
  refine wpAny_bind (wpAny_notOrdered_dict da.typeIs ?_)
  show wpAny _ _ (pure (Value.ref a, Value.ref b)) _ _ s
  refine wpAny_pure ?_
  refine wpAny_bind (wpAny_isInstance (T := "dict") db.typeIs PySem.F.sub_dict_dict ?_)
  simp only [Bool.not_true, Bool.false_eq_true, if_false]
  refine wpAny_bind (wpAny_pure (wpAny_bind (wpAny_pure ?_)))
  refine wpAny_bind (pairsT ha hb hr da db hlen hits ?_)
  refine wpAny_pure ⟨_, rfl, ?_, ?_⟩
  · exact fun x => nomatch x
  · simpa using h
end
theorem kt_hits {H : Hp} {A : Around} {s : Shared} {ks ls : List (List Key × V)} {xa xb : List (List Key × Addr × Value)} (ra : KT H ks xa) (rb : KT H ls xb) (hp : ∀ p ∈ ks, valV ls p.1 = some p.2 ∧ flatB p.2 = true) :
    ∀ x ∈ xa, ∃ (j : Nat) (p : Addr × Value), xb[j]? = some (x.1, p) ∧ SeqAt.EqAt A s x.2.2 p.2 true := by
  have find : ∀ {ls : List (List Key × V)} {xb : List (List Key × Addr × Value)}, KT H ls xb → ∀ (k : List Key) (v : V), valV ls k = some v → ∃ (j : Nat) (p : Addr × Value), xb[j]? = some (k, p) ∧ RelV v p.2 := by
    intro ls xb rb
    induction rb with
    | nil => intro k v e; cases e
    | @cons p q ps qs h t ih =>
      intro k v e
      obtain ⟨h1, h2, h3⟩ := h
      by_cases hk : p.1 = k
      · rw [valV_pos hk] at e
        cases e
        exact ⟨0, q.2, by subst hk; rw [h1]; rfl, h3⟩
      · rw [valV_neg hk] at e
        obtain ⟨j, p', hj, r⟩ := ih k v e
        exact ⟨j + 1, p', by simpa using hj, r⟩
  induction ra with
  | nil => intro x hx; exact nomatch hx
  | @cons p q ps qs h t ih =>
    intro x hx
    rcases List.mem_cons.mp hx with e | hx
    · subst e
      obtain ⟨h1, h2, h3⟩ := h
      obtain ⟨e1, e2⟩ := hp p List.mem_cons_self
      obtain ⟨j, p', hj, r⟩ := find rb p.1 p.2 e1
      exact ⟨j, p', by rw [← h1]; exact hj, eqAt_same h3 r e2⟩
    · exact ih (fun p' hm => hp p' (List.mem_cons_of_mem _ hm)) x hx
theorem kt_len {H : Hp} {ks : List (List Key × V)} {xa : List (List Key × Addr × Value)} (ra : KT H ks xa) : ks.length = xa.length := Paired.length ra
def rEqT : R2 := fun x y H Q => ∃ a b ks ls, x = .ref a ∧ y = .ref b ∧ Rd H a (.dT ks) ∧ Rd H b (.dT ls) ∧ ks.length = ls.length ∧ (∀ p ∈ ks, valV ls p.1 = some p.2 ∧ flatB p.2 = true) ∧ Q (.bl true) H
def rNeT : R2 := fun x y H Q => ∃ a b ks ls, x = .ref a ∧ y = .ref b ∧ Rd H a (.dT ks) ∧ Rd H b (.dT ls) ∧ ks.length = ls.length ∧ (∀ p ∈ ks, valV ls p.1 = some p.2 ∧ flatB p.2 = true) ∧ Q (.bl false) H
section
variable {X : Cx}
theorem op_eqT (hu : X.A.units + 1 < cLine) : OpR X (compareOp .Eq) rEqT := by
  intro pins s σ H x y v u Q I rx ry h
  obtain ⟨a, b, ks, ls, rfl, rfl, ea, eb, hlen, hp, q⟩ := h
  obtain rfl : v = Value.ref a := rx
  obtain rfl : u = Value.ref b := ry
  obtain ⟨_, ya, xa, ra, da⟩ := dt_rd I.hok ea
  obtain ⟨_, yb, xb, rb, db⟩ := dt_rd I.hok eb
  have l1 := kt_len ra
  have l2 := kt_len rb
  exact eqT (knd := tupleKind (mixKind X.prog X.w)) ya yb (tupleKind_room_in1 hu) (by omega) da db (by omega) (kt_hits ra rb hp) ⟨.bl true, H, I, rfl, q⟩
theorem op_neT (hu : X.A.units + 1 < cLine) : OpR X (compareOp .NotEq) rNeT := by
  intro pins s σ H x y v u Q I rx ry h
  obtain ⟨a, b, ks, ls, rfl, rfl, ea, eb, hlen, hp, q⟩ := h
  obtain rfl : v = Value.ref a := rx
  obtain rfl : u = Value.ref b := ry
  obtain ⟨_, ya, xa, ra, da⟩ := dt_rd I.hok ea
  obtain ⟨_, yb, xb, rb, db⟩ := dt_rd I.hok eb
  have l1 := kt_len ra
  have l2 := kt_len rb
  exact neT (knd := tupleKind (mixKind X.prog X.w)) ya yb (tupleKind_room_in1 hu) (by omega) da db (by omega) (kt_hits ra rb hp) ⟨.bl false, H, I, rfl, q⟩
end
end VI
set_option Elab.async false
set_option linter.all false
set_option maxRecDepth 100000
set_option autoImplicit false
namespace VI
open PySem L2
section
variable {X : Cx} {cl : Tb} {e a b c : Expr} {m ma mb mc : Ev → Option D} {pos : Pos} {B H : Hp} {K : PySem.W.Frag}
theorem RepL.append {cl : Nat → Addr} {xs ys : List D} {us vs : List V} {f g : List Addr} (h : RepL K cl B H xs us f) (h2 : RepL K cl B H ys vs g) : RepL K cl B H (xs ++ ys) (us ++ vs) (f ++ g) := by
  induction xs generalizing us f with
  | nil => simp only [RepL] at h; rw [h.1, h.2]; exact h2
  | cons x xs ih =>
    simp only [RepL] at h
    obtain ⟨v, vr, f1, f2, e1, e2, r, rr⟩ := h
    subst e1 e2
    rw [List.cons_append, List.cons_append, List.append_assoc]
    simp only [RepL]
    exact ⟨v, vr ++ vs, f1, f2 ++ g, rfl, rfl, r, ih rr⟩
theorem RepL.pl {cl : Nat → Addr} {xs : List D} {us : List V} {f : List Addr} (h : RepL K cl B H xs us f) (p : D.plainL xs = true) : RepL K cl B H xs us [] := by
  have := RepL.plain p h
  rw [this] at h; exact h
theorem rep_newList {cl : Nat → Addr} {B' : Hp} {p : Addr} {xs : List D} {us : List V} (n : New B H B (upd H p (.lst us))) (r : RepL K cl B H xs us []) : Rep K cl B (upd H p (.lst us)) (.lst true xs) (.ref p) [p] := by
  simp only [Rep]
  exact ⟨p, us, [], rfl, upd_same, r.news n, rfl⟩
theorem fresh_one {p : Addr} (s : BLe B H) (hp : H p = none) : Fresh H B [p] := ⟨by simp, (fun a z => by simp at z; subst z; exact hp), (fun a z => by simp at z; subst z; exact s.none_of hp)⟩
theorem rep_int {cl : Nat → Addr} {i : Int} : Rep K cl B H (.int i) (.int i) [] := by simp only [Rep]; exact ⟨trivial, trivial⟩
theorem rep_bl {cl : Nat → Addr} {i : Bool} : Rep K cl B H (.bl i) (.bl i) [] := by simp only [Rep]; exact ⟨trivial, trivial⟩
theorem rep_str {cl : Nat → Addr} {i : Str} : Rep K cl B H (.str i) (.str i) [] := by simp only [Rep]; exact ⟨trivial, trivial⟩
theorem rep_non {cl : Nat → Addr} : Rep K cl B H .non .non [] := by simp only [Rep]; exact ⟨trivial, trivial⟩
theorem rep_int_iff {cl : Nat → Addr} {i : Int} {v : V} {fp : List Addr} : Rep K cl B H (.int i) v fp ↔ v = .int i ∧ fp = [] := by simp only [Rep]
theorem rep_bl_iff {cl : Nat → Addr} {i : Bool} {v : V} {fp : List Addr} : Rep K cl B H (.bl i) v fp ↔ v = .bl i ∧ fp = [] := by simp only [Rep]
theorem rep_str_iff {cl : Nat → Addr} {i : Str} {v : V} {fp : List Addr} : Rep K cl B H (.str i) v fp ↔ v = .str i ∧ fp = [] := by simp only [Rep]
theorem rep_non_iff {cl : Nat → Addr} {v : V} {fp : List Addr} : Rep K cl B H .non v fp ↔ v = .non ∧ fp = [] := by simp only [Rep]
def addD : D → D → Option D
  | .int i, .int j => some (.int (i + j))
  | .str s, .str t => if s.length + t.length ≤ sizeLine then some (.str (s ++ t)) else none
  | .lst _ xs, .lst _ ys => if D.plainL xs = true ∧ D.plainL ys = true ∧ xs.length + ys.length ≤ sizeLine then some (.lst true (xs ++ ys)) else none
  | _, _ => none
abbrev rAddA : R2 := fun x y H Q => (rI0 fun i j => .int (i + j)) x y H Q ∨ (fun x y H Q => (∃ i j, x = .str i ∧ y = .str j ∧ i.length + j.length ≤ sizeLine ∧ Q (.str (i ++ j)) H)) x y H Q ∨ rCat x y H Q
theorem op_addA : OpR X (binaryOp .Add) rAddA := op_add.or (op_add_str.or op_cat)
theorem addD_ok : OpD X cl rAddA addD := by
  intro B H x y d u v f1 f2 s r1 r2 hg Q q
  cases x <;> cases y <;> simp only [addD] at hg <;> try (cases hg; done)
  case int.int i j =>
    cases hg
    rw [rep_int_iff] at r1 r2
    exact .inl ⟨i, j, r1.1, r2.1, q _ B H [] (New.refl s) rep_int Fresh.nil⟩
  case str.str i j =>
    by_cases hl : i.length + j.length ≤ sizeLine
    · rw [if_pos hl] at hg
      cases hg
      rw [rep_str_iff] at r1 r2
      exact .inr (.inl ⟨i, j, r1.1, r2.1, hl, q _ B H [] (New.refl s) rep_str Fresh.nil⟩)
    · rw [if_neg hl] at hg; cases hg
  case lst.lst m xs n ys =>
    by_cases hl : D.plainL xs = true ∧ D.plainL ys = true ∧ xs.length + ys.length ≤ sizeLine
    · rw [if_pos hl] at hg
      cases hg
      obtain ⟨p1, p2, hz⟩ := hl
      obtain ⟨a, us, fq, e1, h1, q1, _⟩ := r1.lst_view s
      obtain ⟨b, ws, fr, e2, h2, q2, _⟩ := r2.lst_view s
      refine .inr (.inr ⟨a, b, us, ws, e1, e2, h1, h2, by rw [← q1.length, ← q2.length]; exact hz, fun p hp => ?_⟩)
      have n := New.own (o := .lst (us ++ ws)) s.toBLe hp
      exact q _ B _ [p] n (rep_newList (B' := B) n ((q1.pl p1).append (q2.pl p2))) (fresh_one s hp)
    · rw [if_neg hl] at hg; cases hg
def subD : D → D → Option D
  | .int i, .int j => some (.int (i - j))
  | _, _ => none
theorem subD_ok : OpD X cl (rI0 fun i j => .int (i - j)) subD := by
  intro B H x y d u v f1 f2 s r1 r2 hg Q q
  cases x <;> cases y <;> simp only [subD] at hg <;> try (cases hg; done)
  cases hg
  rw [rep_int_iff] at r1 r2
  exact ⟨_, _, r1.1, r2.1, q _ B H [] (New.refl s) rep_int Fresh.nil⟩
def small64 (i : Int) : Bool := decide (i.natAbs < 18446744073709551616)
def mulD : D → D → Option D
  | .int i, .int j => if small64 i || small64 j then some (.int (i * j)) else none
  | .str s, .int n => if s.length ≤ 1000 ∧ 0 ≤ n ∧ n.natAbs ≤ 1000 then some (.str (Txt.mul s n)) else none
  | .lst _ xs, .int n => if D.plainL xs = true ∧ xs.length ≤ 1000 ∧ 0 ≤ n ∧ n.natAbs ≤ 1000 then some (.lst true (List.replicate n.toNat xs).flatten) else none
  | _, _ => none
theorem reps_ok {cl : Nat → Addr} {xs : List D} {us : List V} (h : RepL K cl B H xs us []) : ∀ n : Nat, RepL K cl B H (List.replicate n xs).flatten (List.replicate n us).flatten []
  | 0 => by simp only [List.replicate, List.flatten_nil, RepL]; exact ⟨trivial, trivial⟩
  | n + 1 => by
    rw [List.replicate_succ, List.replicate_succ, List.flatten_cons, List.flatten_cons]
    exact h.append (reps_ok h n)
abbrev rMulS : R2 := fun x y H Q => ∃ z n, x = .str z ∧ y = .int n ∧ z.length ≤ 1000 ∧ 0 ≤ n ∧ n ≤ 1000 ∧ Q (.str (Txt.mul z n)) H
theorem mulOk_small {z : Str} {n : Int} (hz : z.length ≤ 1000) (h0 : 0 ≤ n) (h1 : n ≤ 1000) : MulOk z n := by
  refine ⟨by simp; omega, fun h _ => ?_, fun h _ => ?_⟩
  · have : (1000 : Int) ≤ (2 ^ 63 - 1) / n := Int.le_ediv_of_mul_le (by omega) (by omega)
    omega
  · unfold Builtin.Str.tooLong
    have h2 : z.length * n.toNat ≤ 1000 * 1000 := Nat.mul_le_mul hz (by omega)
    have hs : sizeLine = 16777216 := sizeLine_eq
    simp; omega
theorem op_mulS : OpR X (binaryOp .Mult) rMulS := by
  intro pins s σ H x y v u Q I rx ry h
  obtain ⟨z, n, rfl, rfl, h1, h2, h3, q⟩ := h
  obtain ⟨t, rfl⟩ := rx
  obtain ⟨t', rfl⟩ := ry
  exact SB.mul (mulOk_small h1 h2 h3) fun t2 k => ⟨.str _, H, I.tok _, ⟨_, rfl⟩, q⟩
abbrev rMulA : R2 := fun x y H Q => (rI CMul fun i j => .int (i * j)) x y H Q ∨ rMulS x y H Q ∨ rRep x y H Q
theorem op_mulA : OpR X (binaryOp .Mult) rMulA := op_mul.or (op_mulS.or op_rep)
theorem mulD_ok : OpD X cl rMulA mulD := by
  intro B H x y d u v f1 f2 s r1 r2 hg Q q
  cases x <;> cases y <;> simp only [mulD] at hg <;> try (cases hg; done)
  case int.int i j =>
    by_cases hl : (small64 i || small64 j) = true
    · rw [if_pos hl] at hg
      cases hg
      rw [rep_int_iff] at r1 r2
      refine .inl ⟨i, j, r1.1, r2.1, ?_, q _ B H [] (New.refl s) rep_int Fresh.nil⟩
      unfold CMul
      simp only [small64, Bool.or_eq_true, decide_eq_true_eq] at hl
      exact hl.imp (fun h => ⟨by omega, by omega⟩) fun h => ⟨by omega, by omega⟩
    · rw [if_neg hl] at hg; cases hg
  case str.int z n =>
    by_cases hl : z.length ≤ 1000 ∧ 0 ≤ n ∧ n.natAbs ≤ 1000
    · rw [if_pos hl] at hg
      cases hg
      rw [rep_int_iff] at r2
      rw [rep_str_iff] at r1
      exact .inr (.inl ⟨z, n, r1.1, r2.1, hl.1, hl.2.1, by omega, q _ B H [] (New.refl s) rep_str Fresh.nil⟩)
    · rw [if_neg hl] at hg; cases hg
  case lst.int m xs n =>
    by_cases hl : D.plainL xs = true ∧ xs.length ≤ 1000 ∧ 0 ≤ n ∧ n.natAbs ≤ 1000
    · rw [if_pos hl] at hg
      cases hg
      obtain ⟨p1, hz, h0, h1⟩ := hl
      rw [rep_int_iff] at r2
      obtain ⟨a, us, fq, e1, hh, q1, _⟩ := r1.lst_view s
      have hs : sizeLine = 16777216 := sizeLine_eq
      have hm : us.length * n.toNat ≤ 1000 * 1000 := Nat.mul_le_mul (by rw [← q1.length]; exact hz) (by omega)
      refine .inr (.inr ⟨a, n, us, e1, r2.1, hh, by omega, by omega, by omega, fun p hp => ?_⟩)
      have nn := New.own (o := .lst (List.replicate n.toNat us).flatten) s.toBLe hp
      exact q _ B _ [p] nn (rep_newList (B' := B) nn (reps_ok (q1.pl p1) _)) (fresh_one s hp)
    · rw [if_neg hl] at hg; cases hg
def fdivD : D → D → Option D
  | .int i, .int j => if 0 < j ∧ j.natAbs < 1073741824 then some (.int (i / j)) else none
  | _, _ => none
theorem fdivD_ok : OpD X cl (rI CDiv fun i j => .int (i / j)) fdivD := by
  intro B H x y d u v f1 f2 s r1 r2 hg Q q
  cases x <;> cases y <;> simp only [fdivD] at hg <;> try (cases hg; done)
  case int.int i j =>
    by_cases hl : 0 < j ∧ j.natAbs < 1073741824
    · rw [if_pos hl] at hg
      cases hg
      rw [rep_int_iff] at r1 r2
      exact ⟨_, _, r1.1, r2.1, ⟨hl.1, by omega⟩, q _ B H [] (New.refl s) rep_int Fresh.nil⟩
    · rw [if_neg hl] at hg; cases hg
def modD : D → D → Option D
  | .int i, .int j => if 0 < j then some (.int (i % j)) else none
  | _, _ => none
theorem modD_ok : OpD X cl (rI (fun _ j => 0 < j) fun i j => .int (i % j)) modD := by
  intro B H x y d u v f1 f2 s r1 r2 hg Q q
  cases x <;> cases y <;> simp only [modD] at hg <;> try (cases hg; done)
  case int.int i j =>
    by_cases hl : 0 < j
    · rw [if_pos hl] at hg
      cases hg
      rw [rep_int_iff] at r1 r2
      exact ⟨_, _, r1.1, r2.1, hl, q _ B H [] (New.refl s) rep_int Fresh.nil⟩
    · rw [if_neg hl] at hg; cases hg
def powD : D → D → Option D
  | .int i, .int j => if 0 ≤ j ∧ j.natAbs ≤ 1000 ∧ i.natAbs < 1000 then some (.int (i ^ j.toNat)) else none
  | _, _ => none
theorem powD_ok : OpD X cl (rI CPow fun i j => .int (i ^ j.toNat)) powD := by
  intro B H x y d u v f1 f2 s r1 r2 hg Q q
  cases x <;> cases y <;> simp only [powD] at hg <;> try (cases hg; done)
  case int.int i j =>
    by_cases hl : 0 ≤ j ∧ j.natAbs ≤ 1000 ∧ i.natAbs < 1000
    · rw [if_pos hl] at hg
      cases hg
      rw [rep_int_iff] at r1 r2
      exact ⟨_, _, r1.1, r2.1, ⟨hl.1, by omega, by omega⟩, q _ B H [] (New.refl s) rep_int Fresh.nil⟩
    · rw [if_neg hl] at hg; cases hg
def ltD : D → D → Option D
  | .int i, .int j => some (.bl (decide (i < j)))
  | _, _ => none
def leD : D → D → Option D
  | .int i, .int j => some (.bl (decide (i ≤ j)))
  | _, _ => none
def geD : D → D → Option D
  | .int i, .int j => some (.bl (decide (j ≤ i)))
  | _, _ => none
theorem ltD_ok : OpD X cl (rI0 fun i j => .bl (decide (i < j))) ltD := by
  intro B H x y d u v f1 f2 s r1 r2 hg Q q
  cases x <;> cases y <;> simp only [ltD] at hg <;> try (cases hg; done)
  cases hg
  rw [rep_int_iff] at r1 r2
  exact ⟨_, _, r1.1, r2.1, q _ B H [] (New.refl s) rep_bl Fresh.nil⟩
theorem leD_ok : OpD X cl (rI0 fun i j => .bl (decide (i ≤ j))) leD := by
  intro B H x y d u v f1 f2 s r1 r2 hg Q q
  cases x <;> cases y <;> simp only [leD] at hg <;> try (cases hg; done)
  cases hg
  rw [rep_int_iff] at r1 r2
  exact ⟨_, _, r1.1, r2.1, q _ B H [] (New.refl s) rep_bl Fresh.nil⟩
def isND : D → D → Option D
  | .non, .non => some (.bl true)
  | _, .non => some (.bl false)
  | _, _ => none
def notND : D → D → Option D
  | .non, .non => some (.bl false)
  | _, .non => some (.bl true)
  | _, _ => none
mutual
def D.py : D → Option PyData
  | .non => some .none | .bl b => some (.bool b) | .int i => some (.int i) | .str s => some (.str s)
  | .tup xs => (pyL xs).map .tuple
  | .lst _ xs => (pyL xs).map .list
  | _ => none
def D.pyL : List D → Option (List PyData)
  | [] => some []
  | x :: xs => (x.py).bind fun d => (pyL xs).map (d :: ·)
end
mutual
theorem dp_of {cl : Nat → Addr} (s : BLe B H) : ∀ {d : D} {v : V} {fp : List Addr} {p : PyData}, Rep K cl B H d v fp → d.py = some p → Dp K H v p
  | .non, _, _, _, r, e => by simp only [Rep] at r; simp only [D.py] at e; cases e; rw [r.1]; exact .non
  | .bl _, _, _, _, r, e => by simp only [Rep] at r; simp only [D.py] at e; cases e; rw [r.1]; exact .bl _
  | .int _, _, _, _, r, e => by simp only [Rep] at r; simp only [D.py] at e; cases e; rw [r.1]; exact .int _
  | .str _, _, _, _, r, e => by simp only [Rep] at r; simp only [D.py] at e; cases e; rw [r.1]; exact .str _
  | .tup ds, _, _, _, r, e => by
    obtain ⟨a, vs, e1, q1, q2⟩ := r.tup_view s
    simp only [D.py, Option.map_eq_some_iff] at e
    obtain ⟨ps, e2, e3⟩ := e
    subst e3 e1
    exact .tup (.of q1) (dp_ofL s q2 e2)
  | .lst m ds, _, _, _, r, e => by
    obtain ⟨a, vs, fq, e1, q1, q2, _⟩ := r.lst_view s
    simp only [D.py, Option.map_eq_some_iff] at e
    obtain ⟨ps, e2, e3⟩ := e
    subst e3 e1
    exact .lst (.of q1) (dp_ofL s q2 e2)
  | .scr _, _, _, _, _, e => by simp only [D.py] at e; cases e
  | .ktup _, _, _, _, _, e => by simp only [D.py] at e; cases e
  | .exc _ _ _, _, _, _, _, e => by simp only [D.py] at e; cases e
  | .hol _, _, _, _, _, e => by simp only [D.py] at e; cases e
  | .lsa _ _, _, _, _, _, e => by simp only [D.py] at e; cases e
  | .dct _ _ _, _, _, _, _, e => by simp only [D.py] at e; cases e
  | .dtt _ _ _, _, _, _, _, e => by simp only [D.py] at e; cases e
  | .obj _ _ _ _, _, _, _, _, e => by simp only [D.py] at e; cases e
theorem dp_ofL {cl : Nat → Addr} (s : BLe B H) : ∀ {ds : List D} {vs : List V} {fp : List Addr} {ps : List PyData}, RepL K cl B H ds vs fp → D.pyL ds = some ps → DpAll K H vs ps
  | [], _, _, _, r, e => by simp only [RepL] at r; simp only [D.pyL] at e; cases e; rw [r.1]; exact .nil
  | d :: ds, _, _, _, r, e => by
    simp only [RepL] at r
    obtain ⟨v, vr, f1, f2, e1, e2, r1, r2⟩ := r
    subst e1
    simp only [D.pyL, Option.bind_eq_some_iff, Option.map_eq_some_iff] at e
    obtain ⟨p, h1, ps, h2, h3⟩ := e
    subst h3
    exact .cons (dp_of s r1 h1) (dp_ofL s r2 h2)
end
def eqP (x y : D) : Option Bool := (x.py).bind fun p => (y.py).bind fun q => if SeqAt.shaped p = true ∧ SeqAt.shaped q = true then some (PyData.eqv p q) else none
theorem eqP_some {x y : D} {b : Bool} (h : eqP x y = some b) : ∃ p q, x.py = some p ∧ y.py = some q ∧ SeqAt.shaped p = true ∧ SeqAt.shaped q = true ∧ b = PyData.eqv p q := by
  unfold eqP at h
  simp only [Option.bind_eq_some_iff] at h
  obtain ⟨p, h1, q, h2, h3⟩ := h
  by_cases hs : SeqAt.shaped p = true ∧ SeqAt.shaped q = true
  · rw [if_pos hs] at h3; cases h3; exact ⟨p, q, h1, h2, hs.1, hs.2, rfl⟩
  · rw [if_neg hs] at h3; cases h3
def sameF : D → D → Bool
  | .non, .non => true
  | .bl a, .bl b => decide (a = b)
  | .int a, .int b => decide (a = b)
  | .str a, .str b => decide (a = b)
  | _, _ => false
def dctEq {κ : Type} [DecidableEq κ] (ks : List κ) (xs : List D) (ls : List κ) (ys : List D) : Bool := decide (ks.length = ls.length) && (ks.zip xs).all fun p => match look ls ys p.1 with
  | some y => sameF p.2 y
  | none => false
theorem sameF_v {cl : Nat → Addr} {x y : D} {u v : V} {f1 f2 : List Addr} (h : sameF x y = true) (r1 : Rep K cl B H x u f1) (r2 : Rep K cl B H y v f2) : u = v ∧ flatB u = true := by
  cases x <;> cases y <;> simp only [sameF] at h <;> try (cases h; done)
  · rw [rep_non_iff] at r1 r2; rw [r1.1, r2.1]; exact ⟨rfl, rfl⟩
  · rw [rep_bl_iff] at r1 r2; rw [r1.1, r2.1]; simp only [decide_eq_true_eq] at h; rw [h]; exact ⟨rfl, rfl⟩
  · rw [rep_int_iff] at r1 r2; rw [r1.1, r2.1]; simp only [decide_eq_true_eq] at h; rw [h]; exact ⟨rfl, rfl⟩
  · rw [rep_str_iff] at r1 r2; rw [r1.1, r2.1]; simp only [decide_eq_true_eq] at h; rw [h]; exact ⟨rfl, rfl⟩
theorem dctEq_v {cl : Nat → Addr} {κ : Type} [DecidableEq κ] {ks ls : List κ} {xs ys : List D} {us vs : List V} {f1 f2 : List Addr} (h : dctEq ks xs ls ys = true) (l1 : ks.length = xs.length) (l2 : ls.length = ys.length) (r1 : RepL K cl B H xs us f1) (r2 : RepL K cl B H ys vs f2) :
    (ks.zip us).length = (ls.zip vs).length ∧ ∀ p ∈ ks.zip us, valV (ls.zip vs) p.1 = some p.2 ∧ flatB p.2 = true := by
  simp only [dctEq, Bool.and_eq_true, decide_eq_true_eq, List.all_eq_true] at h
  obtain ⟨hl, ha⟩ := h
  have e1 := r1.length
  have e2 := r2.length
  refine ⟨by simp only [List.length_zip]; omega, fun p hp => ?_⟩
  obtain ⟨i, hi⟩ := List.mem_iff_getElem?.mp hp
  rw [List.getElem?_zip_eq_some] at hi
  obtain ⟨i1, i2⟩ := hi
  have hix : i < xs.length := by have := (List.getElem?_eq_some_iff.mp i2).1; omega
  have hx : xs[i]? = some xs[i] := List.getElem?_eq_getElem hix
  have hm : (p.1, xs[i]) ∈ ks.zip xs := List.mem_iff_getElem?.mpr ⟨i, by rw [List.getElem?_zip_eq_some]; exact ⟨i1, hx⟩⟩
  have hv := ha _ hm
  simp only at hv
  split at hv
  · rename_i y hy
    obtain ⟨v, f, q1, q2, _⟩ := (zip_val l2 r2 p.1).1 y hy
    obtain ⟨w, f', q3, q4, _⟩ := r1.get hx
    rw [i2] at q3
    cases q3
    obtain ⟨q5, q6⟩ := sameF_v hv q4 q2
    exact ⟨by rw [q1, q5], q6⟩
  · cases hv
def rEqR : R2 := fun x y H Q => ∃ a b ks ls, x = .ref a ∧ y = .ref b ∧ Rd H a (.dK ks) ∧ Rd H b (.dK ls) ∧ ks.length = ls.length ∧ (∀ p ∈ ks, valV ls p.1 = some p.2 ∧ flatB p.2 = true) ∧ Q (.bl true) H
def rNeR : R2 := fun x y H Q => ∃ a b ks ls, x = .ref a ∧ y = .ref b ∧ Rd H a (.dK ks) ∧ Rd H b (.dK ls) ∧ ks.length = ls.length ∧ (∀ p ∈ ks, valV ls p.1 = some p.2 ∧ flatB p.2 = true) ∧ Q (.bl false) H
theorem op_eqR (hu : X.A.units < cLine) : OpR X (compareOp .Eq) rEqR := by
  intro pins s σ H x y v u Q I rx ry h
  obtain ⟨a, b, ks, ls, rfl, rfl, ea, eb, hlen, hp, q⟩ := h
  obtain rfl : v = Value.ref a := rx
  obtain rfl : u = Value.ref b := ry
  obtain ⟨_, ya, va, ra, da⟩ := (show ObjOk X.prog X.w H s.heap a (.dK ks) from rd_of I.hok ea)
  obtain ⟨_, yb, vb, rb, db⟩ := (show ObjOk X.prog X.w H s.heap b (.dK ls) from rd_of I.hok eb)
  have hl : va.length = vb.length := by rw [← ra.length, ← rb.length]; exact hlen
  exact PySem.W.keq_eq (knd := mixKind X.prog X.w) (r := true) ya yb da db hu (fun _ => hits_all rb ra hp) (fin_bl I q (by simp [hl]))
theorem op_neR (hu : X.A.units < cLine) : OpR X (compareOp .NotEq) rNeR := by
  intro pins s σ H x y v u Q I rx ry h
  obtain ⟨a, b, ks, ls, rfl, rfl, ea, eb, hlen, hp, q⟩ := h
  obtain rfl : v = Value.ref a := rx
  obtain rfl : u = Value.ref b := ry
  obtain ⟨_, ya, va, ra, da⟩ := (show ObjOk X.prog X.w H s.heap a (.dK ks) from rd_of I.hok ea)
  obtain ⟨_, yb, vb, rb, db⟩ := (show ObjOk X.prog X.w H s.heap b (.dK ls) from rd_of I.hok eb)
  have hl : va.length = vb.length := by rw [← ra.length, ← rb.length]; exact hlen
  exact PySem.W.keq_ne (knd := mixKind X.prog X.w) (r := true) ya yb da db hu (fun _ => hits_all rb ra hp) (fin_bl I q (by simp [hl]))
def eqD : D → D → Option D
  | .int i, .int j => some (.bl (decide (i = j)))
  | .str i, .str j => some (.bl (decide (i = j)))
  | .bl i, .bl j => some (.bl (decide (i = j)))
  | .non, .int _ => some (.bl false)
  | .int _, .non => some (.bl false)
  | .non, .str _ => some (.bl false)
  | .str _, .non => some (.bl false)
  | .non, .non => some (.bl true)
  | .dct _ ks xs, .dct _ ls ys => if dctEq ks xs ls ys = true then some (.bl true) else none
  | .dtt _ ks xs, .dtt _ ls ys => if dctEq ks xs ls ys = true then some (.bl true) else none
  | x, y => (eqP x y).map .bl
def neD (x y : D) : Option D := match eqD x y with
  | some (.bl b) => some (.bl (!b))
  | _ => none
abbrev rEqA (K : PySem.W.Frag) : R2 := fun x y H Q => (fun x y H Q => (fun x y H Q => rEq x y H Q ∨ rEqD K x y H Q) x y H Q ∨ rEqR x y H Q) x y H Q ∨ rEqT x y H Q
abbrev rNeA (K : PySem.W.Frag) : R2 := fun x y H Q => (fun x y H Q => (fun x y H Q => rNe x y H Q ∨ rNeD K x y H Q) x y H Q ∨ rNeR x y H Q) x y H Q ∨ rNeT x y H Q
theorem op_eqA (hu : X.A.units + 64 < cLine) : OpR X (compareOp .Eq) (rEqA X.K) := ((op_eq.or (op_eqD hu)).or (op_eqR (by omega))).or (op_eqT (by omega))
theorem op_neA (hu : X.A.units + 64 < cLine) : OpR X (compareOp .NotEq) (rNeA X.K) := ((op_ne.or (op_neD hu)).or (op_neR (by omega))).or (op_neT (by omega))
theorem eqD_cases {cl : Nat → Addr} {x y : D} {b : Bool} (h : eqD x y = some (.bl b)) {u v : V} {f1 f2 : List Addr} (s : BLe B H) (r1 : Rep K cl B H x u f1) (r2 : Rep K cl B H y v f2) :
    ((scal u v = true ∧ b = decide (u = v)) ∨ (∃ p q, Dp K H u p ∧ Dp K H v q ∧ SeqAt.shaped p = true ∧ SeqAt.shaped q = true ∧ b = PyData.eqv p q)) ∨
    (b = true ∧ ((∃ a c ks ls, u = .ref a ∧ v = .ref c ∧ Rd H a (.dK ks) ∧ Rd H c (.dK ls) ∧ ks.length = ls.length ∧ ∀ p ∈ ks, valV ls p.1 = some p.2 ∧ flatB p.2 = true) ∨
      ∃ a c ks ls, u = .ref a ∧ v = .ref c ∧ Rd H a (.dT ks) ∧ Rd H c (.dT ls) ∧ ks.length = ls.length ∧ ∀ p ∈ ks, valV ls p.1 = some p.2 ∧ flatB p.2 = true)) := by
  unfold eqD at h
  split at h
  · cases h; rw [rep_int_iff] at r1 r2; rw [r1.1, r2.1]; exact .inl (.inl ⟨rfl, by simp⟩)
  · cases h; rw [rep_str_iff] at r1 r2; rw [r1.1, r2.1]; exact .inl (.inl ⟨rfl, by simp⟩)
  · cases h; rw [rep_bl_iff] at r1 r2; rw [r1.1, r2.1]; exact .inl (.inl ⟨rfl, by simp⟩)
  · cases h; rw [rep_int_iff] at r2; rw [rep_non_iff] at r1; rw [r1.1, r2.1]; exact .inl (.inl ⟨rfl, by simp⟩)
  · cases h; rw [rep_int_iff] at r1; rw [rep_non_iff] at r2; rw [r1.1, r2.1]; exact .inl (.inl ⟨rfl, by simp⟩)
  · cases h; rw [rep_str_iff] at r2; rw [rep_non_iff] at r1; rw [r1.1, r2.1]; exact .inl (.inl ⟨rfl, by simp⟩)
  · cases h; rw [rep_str_iff] at r1; rw [rep_non_iff] at r2; rw [r1.1, r2.1]; exact .inl (.inl ⟨rfl, by simp⟩)
  · cases h; rw [rep_non_iff] at r1 r2; rw [r1.1, r2.1]; exact .inl (.inl ⟨rfl, by simp⟩)
  · split at h
    · rename_i hd
      cases h
      obtain ⟨a, us, fa, e1, h1, l1, q1⟩ := r1.dct_view s
      obtain ⟨c, vs, fc, e2, h2, l2, q2⟩ := r2.dct_view s
      obtain ⟨k1, k2⟩ := dctEq_v hd l1 l2 q1 q2
      exact .inr ⟨rfl, .inl ⟨a, c, _, _, e1, e2, h1, h2, k1, k2⟩⟩
    · cases h
  · split at h
    · rename_i hd
      cases h
      obtain ⟨a, us, fa, e1, h1, l1, q1⟩ := r1.dtt_view s
      obtain ⟨c, vs, fc, e2, h2, l2, q2⟩ := r2.dtt_view s
      obtain ⟨k1, k2⟩ := dctEq_v hd l1 l2 q1 q2
      exact .inr ⟨rfl, .inr ⟨a, c, _, _, e1, e2, h1, h2, k1, k2⟩⟩
    · cases h
  · simp only [Option.map_eq_some_iff, D.bl.injEq] at h
    obtain ⟨b', h, rfl⟩ := h
    obtain ⟨p, q, h1, h2, s1, s2, h3⟩ := eqP_some h
    exact .inl (.inr ⟨p, q, dp_of s r1 h1, dp_of s r2 h2, s1, s2, h3⟩)
theorem eqD_bl {x y d : D} (h : eqD x y = some d) : ∃ b, d = .bl b := by
  unfold eqD at h
  split at h <;> first | (cases h; exact ⟨_, rfl⟩; done) | skip
  · split at h
    · cases h; exact ⟨_, rfl⟩
    · cases h
  · split at h
    · cases h; exact ⟨_, rfl⟩
    · cases h
  · simp only [Option.map_eq_some_iff] at h
    obtain ⟨b', h, rfl⟩ := h
    exact ⟨_, rfl⟩
theorem eqD_ok : OpD X cl (rEqA X.K) eqD := by
  intro B H x y d u v f1 f2 s r1 r2 hg Q q
  obtain ⟨b, rfl⟩ := eqD_bl hg
  rcases eqD_cases hg s r1 r2 with (⟨h1, h2⟩ | ⟨p, p', d1, d2, s1, s2, h2⟩) | ⟨rfl, ⟨a, c, ks, ls, e1, e2, e3, e4, e5, e6⟩ | ⟨a, c, ks, ls, e1, e2, e3, e4, e5, e6⟩⟩
  · exact .inl (.inl (.inl ⟨h1, by rw [← h2]; exact q _ B H [] (New.refl s) rep_bl Fresh.nil⟩))
  · exact .inl (.inl (.inr ⟨p, p', d1, d2, s1, s2, by rw [← h2]; exact q _ B H [] (New.refl s) rep_bl Fresh.nil⟩))
  · exact .inl (.inr ⟨a, c, ks, ls, e1, e2, e3, e4, e5, e6, q _ B H [] (New.refl s) rep_bl Fresh.nil⟩)
  · exact .inr ⟨a, c, ks, ls, e1, e2, e3, e4, e5, e6, q _ B H [] (New.refl s) rep_bl Fresh.nil⟩
theorem neD_ok : OpD X cl (rNeA X.K) neD := by
  intro B H x y d u v f1 f2 s r1 r2 hg Q q
  unfold neD at hg
  split at hg
  · rename_i b hb
    cases hg
    rcases eqD_cases hb s r1 r2 with (⟨h1, h2⟩ | ⟨p, p', d1, d2, s1, s2, h2⟩) | ⟨rfl, ⟨a, c, ks, ls, e1, e2, e3, e4, e5, e6⟩ | ⟨a, c, ks, ls, e1, e2, e3, e4, e5, e6⟩⟩
    · exact .inl (.inl (.inl ⟨h1, by rw [← h2]; exact q _ B H [] (New.refl s) rep_bl Fresh.nil⟩))
    · exact .inl (.inl (.inr ⟨p, p', d1, d2, s1, s2, by rw [← h2]; exact q _ B H [] (New.refl s) rep_bl Fresh.nil⟩))
    · exact .inl (.inr ⟨a, c, ks, ls, e1, e2, e3, e4, e5, e6, q _ B H [] (New.refl s) rep_bl Fresh.nil⟩)
    · exact .inr ⟨a, c, ks, ls, e1, e2, e3, e4, e5, e6, q _ B H [] (New.refl s) rep_bl Fresh.nil⟩
  · cases hg
end
end VI
set_option Elab.async false
set_option linter.all false
set_option maxRecDepth 100000
set_option autoImplicit false
namespace VI
open PySem L2
section
variable {X : Cx} {cl : Tb} {e a b c : Expr} {es : List Expr} {m ma mb mc : Ev → Option D} {ms : Ev → Option (List D)} {pos : Pos} {B H : Hp} {K : PySem.W.Frag}
def mNil : Ev → Option (List D) := fun _ => some []
def mCons (m : Ev → Option D) (ms : Ev → Option (List D)) : Ev → Option (List D) := fun A => (m A).bind fun d => (ms A).map (d :: ·)
theorem mCons_some {A : Ev} {ds : List D} (h : mCons m ms A = some ds) : ∃ d r, m A = some d ∧ ms A = some r ∧ ds = d :: r := by
  unfold mCons at h
  simp only [Option.bind_eq_some_iff, Option.map_eq_some_iff] at h
  obtain ⟨d, h1, r, h2, h3⟩ := h
  exact ⟨d, r, h1, h2, h3.symm⟩
theorem repL_nil {cl : Nat → Addr} : RepL K cl B H [] [] [] := by simp only [RepL]; exact ⟨trivial, trivial⟩
theorem repL_cons {cl : Nat → Addr} {d : D} {ds : List D} {v : V} {vs : List V} {f g : List Addr} (h : Rep K cl B H d v f) (r : RepL K cl B H ds vs g) : RepL K cl B H (d :: ds) (v :: vs) (f ++ g) := by
  simp only [RepL]; exact ⟨v, vs, f, g, rfl, rfl, h, r⟩
theorem ea_nil : EvA X cl [] mNil := ⟨_, pa_nil, fun σ A B H R ds e Q q => by cases e; exact q [] B H [] (New.refl R.sub) repL_nil⟩
theorem ea_cons (h : EvV X cl e m) (hr : EvA X cl es ms) (hs : starEach (e :: es) X.env = (false, eval e X.env) :: starEach es X.env := by rfl) : EvA X cl (e :: es) (mCons m ms) := by
  obtain ⟨t, p, r⟩ := h
  obtain ⟨t2, p2, r2⟩ := hr
  refine ⟨_, pa_cons p p2 hs, fun σ A B H R ds he Q q => ?_⟩
  obtain ⟨d, dr, h1, h2, rfl⟩ := mCons_some he
  exact r σ A B H R d h1 _ fun v B1 H1 f1 n1 rp => r2 σ A B1 H1 (R.news n1) dr h2 _ fun vs B2 H2 f2 n2 rps => q (v :: vs) B2 H2 _ (n1.trans n2) (repL_cons (rp.news n2) rps)
theorem ed_nil : EvAD X cl [] mNil := ⟨_, pa_nil, fun σ A B H R ds e Q q => by cases e; exact q [] B H [] (New.refl R.sub) repL_nil Fresh.nil⟩
theorem Fresh.append {B1 H1 B2 H2 B0 : Hp} {f g : List Addr} (x : Fresh H B1 f) (st : ∀ a ∈ f, ∃ o, H1 a = some o ∧ ownable o = true) (n1 : New B0 H B1 H1) (n : New B1 H1 B2 H2) (y : Fresh H1 B2 g) : Fresh H B2 (f ++ g) := by
  have x' := x.news n st
  refine ⟨List.nodup_append.mpr ⟨x.nd, y.nd, fun a ha b hb hab => ?_⟩, fun a z => ?_, fun a z => ?_⟩
  · subst hab
    obtain ⟨o, e, _⟩ := st a ha
    rw [y.nh a hb] at e; cases e
  · rcases List.mem_append.mp z with z | z
    · exact x.nh a z
    · exact none_back n1.ex (y.nh a z)
  · rcases List.mem_append.mp z with z | z
    · exact x'.nb a z
    · exact y.nb a z
theorem ed_cons (h : EvD X cl e m) (hr : EvAD X cl es ms) (hs : starEach (e :: es) X.env = (false, eval e X.env) :: starEach es X.env := by rfl) : EvAD X cl (e :: es) (mCons m ms) := by
  obtain ⟨t, p, r⟩ := h
  obtain ⟨t2, p2, r2⟩ := hr
  refine ⟨_, pa_cons p p2 hs, fun σ A B H R ds he Q q => ?_⟩
  obtain ⟨d, dr, h1, h2, rfl⟩ := mCons_some he
  exact r σ A B H R d h1 _ fun v B1 H1 f1 n1 rp fr => r2 σ A B1 H1 (R.news n1) dr h2 _ fun vs B2 H2 f2 n2 rps fr2 => q (v :: vs) B2 H2 _ (n1.trans n2) (repL_cons (rp.news n2) rps) (fr.append rp.stand' n1 n2 fr2)
def mLst (ms : Ev → Option (List D)) : Ev → Option D := fun A => (ms A).bind fun ds => if ds.length ≤ 1000 then some (.lst true ds) else none
def mTup (ms : Ev → Option (List D)) : Ev → Option D := fun A => (ms A).bind fun ds => if ds.length ≤ 1000 then some (.tup ds) else none
theorem le_line {n : Nat} (h : n ≤ 1000) : n ≤ sizeLine := Nat.le_trans h (by rw [sizeLine_eq]; decide)
theorem Fresh.cons {B2 : Hp} {B1 H1 : Hp} {B0 : Hp} {f : List Addr} {p : Addr} {o : HO} (n : New B0 H B1 H1) (x : Fresh H B1 f) (st : ∀ a ∈ f, ∃ o, H1 a = some o) (hp : H1 p = none) : Fresh H B1 (p :: f) := by
  refine ⟨List.nodup_cons.mpr ⟨fun z => ?_, x.nd⟩, fun a z => ?_, fun a z => ?_⟩
  · obtain ⟨o, e⟩ := st p z; rw [hp] at e; cases e
  · rcases List.mem_cons.mp z with rfl | z
    · exact none_back n.ex hp
    · exact x.nh a z
  · rcases List.mem_cons.mp z with rfl | z
    · exact n.sub.none_of hp
    · exact x.nb a z
theorem ev_lst (h : EvAD X cl es ms) : EvD X cl (.List es pos) (mLst ms) := by
  obtain ⟨t, p, r⟩ := h
  refine ⟨_, pe_lst p, fun σ A B H R d he Q q => ?_⟩
  unfold mLst at he
  simp only [Option.bind_eq_some_iff] at he
  obtain ⟨ds, h1, h2⟩ := he
  by_cases hl : ds.length ≤ 1000
  · rw [if_pos hl] at h2; cases h2
    refine r σ A B H R ds h1 _ fun vs B1 H1 f1 n1 rp fr => ⟨by rw [← rp.length]; exact le_line hl, fun p hp => ?_⟩
    have n2 := New.own (o := .lst vs) n1.sub hp
    refine q _ B1 _ (p :: f1) (n1.trans n2) ?_ (fr.cons (B2 := B1) (o := .lst vs) n1 rp.stand hp)
    simp only [Rep]
    exact ⟨p, vs, f1, rfl, upd_same, rp.news n2, rfl⟩
  · rw [if_neg hl] at h2; cases h2
theorem ev_tup {x1} (h : EvAD X cl es ms) : EvD X cl (.Tuple es x1 pos) (mTup ms) := by
  obtain ⟨t, p, r⟩ := h
  refine ⟨_, pe_tup p, fun σ A B H R d he Q q => ?_⟩
  unfold mTup at he
  simp only [Option.bind_eq_some_iff] at he
  obtain ⟨ds, h1, h2⟩ := he
  by_cases hl : ds.length ≤ 1000
  · rw [if_pos hl] at h2; cases h2
    refine r σ A B H R ds h1 _ fun vs B1 H1 f1 n1 rp fr => ⟨by rw [← rp.length]; exact le_line hl, fun p hp => ?_⟩
    have n2 := New.told (o := .tup vs) n1.sub hp
    refine q _ _ _ f1 (n1.trans n2) ?_ (fr.news n2 rp.stand')
    simp only [Rep]
    exact ⟨p, vs, rfl, upd_same, rp.news n2⟩
  · rw [if_neg hl] at h2; cases h2
theorem ev_dnewK : EvD X cl (.Dict [] [] pos) (mC (.dct true [] [])) := by
  refine ⟨_, pe_dnewK, fun σ A B H R d he Q q p hp => ?_⟩
  cases he
  have n2 := New.own (o := .dK []) R.sub hp
  exact q _ B _ [p] n2 (by simp only [Rep, RepL]; exact ⟨p, [], [], rfl, upd_same, rfl, ⟨rfl, rfl⟩, rfl⟩) (fresh_one R.sub hp)
theorem ev_dnewT : EvD X cl (.Dict [] [] pos) (mC (.dtt true [] [])) := by
  refine ⟨_, pe_dnewT, fun σ A B H R d he Q q p hp => ?_⟩
  cases he
  have n2 := New.own (o := .dT []) R.sub hp
  exact q _ B _ [p] n2 (by simp only [Rep, RepL]; exact ⟨p, [], [], rfl, upd_same, rfl, ⟨rfl, rfl⟩, rfl⟩) (fresh_one R.sub hp)
theorem zip_fld {cl : Nat → Addr} : ∀ {fs : List Str} {ds : List D} {vs : List V} {fp : List Addr}, fs.length = ds.length → RepL K cl B H ds vs fp → ∀ {f : Str} {d : D}, (fs.zip ds).lookup f = some d → ∃ v f', (fs.zip vs).lookup f = some v ∧ Rep K cl B H d v f' ∧ ∀ a ∈ f', a ∈ fp
  | [], [], _, _, _, _, _, _, e => by simp at e
  | [], _ :: _, _, _, l, _, _, _, _ => by simp at l
  | _ :: _, [], _, _, l, _, _, _, _ => by simp at l
  | g :: fs, d' :: ds, _, _, l, h, f, d, e => by
    simp only [RepL] at h
    obtain ⟨v, vr, f1, f2, e1, e2, r, rr⟩ := h
    subst e1 e2
    rw [List.zip_cons_cons, List.lookup_cons] at e
    rw [List.zip_cons_cons, List.lookup_cons]
    cases hk : f == g with
    | true => rw [hk] at e; simp at e; subst e; exact ⟨v, f1, rfl, r, fun a z => by simp [z]⟩
    | false =>
      rw [hk] at e
      obtain ⟨w, f', q1, q2, q3⟩ := zip_fld (fs := fs) (ds := ds) (by simpa using l) rr e
      exact ⟨w, f', q1, q2, fun a z => by simp [q3 a z]⟩
def mFld (c : Nat) (f : Str) (m : Ev → Option D) : Ev → Option D := fun A => match m A with
  | some (.obj _ c' fs xs) => if c' = c then (fs.zip xs).lookup f else none
  | _ => none
theorem ev_fld {c : Nat} {f : Str} (hC : Cls X.K (cl c)) (hN : NoAttr X.K (cl c) f) (h : EvV X cl e m) (hb : attributeBase e f X.env (eval e X.env) = eval e X.env := by rfl) : EvV X cl (.Attribute e f pos) (mFld c f m) := by
  obtain ⟨t, p, r⟩ := h
  refine ⟨_, pe_fld p hb, fun σ A B H R d he Q q => ?_⟩
  unfold mFld at he
  split at he
  · rename_i mm c' fs xs hm
    by_cases hc : c' = c
    · rw [if_pos hc] at he
      subst hc
      refine r σ A B H R _ hm _ fun v B1 H1 f1 n1 rp => ?_
      obtain ⟨a, dx, vs, fq, e1, q1, l, q2⟩ := rp.obj_view n1.sub
      obtain ⟨w, f', k1, k2, _⟩ := zip_fld l q2 he
      exact ⟨a, _, dx, _, w, e1, q1, hC, hN, k1, q w B1 H1 f' n1 k2⟩
    · rw [if_neg hc] at he; cases he
  · cases he
def keyD : D → Option Key
  | .int i => some (.inl i)
  | .str s => some (.inr s)
  | _ => none
def keysD : List D → Option (List Key)
  | [] => some []
  | d :: ds => (keyD d).bind fun k => (keysD ds).map (k :: ·)
theorem keyD_v {cl : Nat → Addr} {d : D} {k : Key} {v : V} {fp : List Addr} (h : keyD d = some k) (r : Rep K cl B H d v fp) : v = kV k := by
  cases d <;> simp only [keyD] at h <;> try (cases h; done)
  · cases h; rw [rep_int_iff] at r; exact r.1
  · cases h; rw [rep_str_iff] at r; exact r.1
theorem keysD_v {cl : Nat → Addr} : ∀ {ds : List D} {ks : List Key} {vs : List V} {fp : List Addr}, keysD ds = some ks → RepL K cl B H ds vs fp → vs = ks.map kV
  | [], _, _, _, h, r => by simp only [keysD] at h; cases h; simp only [RepL] at r; rw [r.1]; rfl
  | d :: ds, _, _, _, h, r => by
    simp only [keysD, Option.bind_eq_some_iff, Option.map_eq_some_iff] at h
    obtain ⟨k, h1, ks, h2, h3⟩ := h
    subst h3
    simp only [RepL] at r
    obtain ⟨v, vr, f1, f2, e1, e2, r1, r2⟩ := r
    rw [e1, keyD_v h1 r1, keysD_v h2 r2]; rfl
theorem atI_map {α β : Type} (f : α → β) (xs : List α) (i : Int) : atI (xs.map f) i = (atI xs i).map f := by
  unfold atI
  rw [List.length_map]
  cases ixN xs.length i with
  | none => rfl
  | some j => simp only [Option.bind_some, List.getElem?_map]
def subscr : D → D → Option D
  | .lst _ xs, .int i => atI xs i
  | .tup xs, .int i => atI xs i
  | .lsa _ xs, .int i => atI xs i
  | .ktup xs, .int i => atI xs i
  | .str s, .int i => if s.length ≤ sizeLine then (atI s.cps.toList i).map fun c => .str ⟨#[c]⟩ else none
  | .scr ns, .int i => (atI ns i).map .int
  | .dct _ ks xs, k => (keyD k).bind (look ks xs)
  | .dtt _ ks xs, .tup k => (keysD k).bind (look ks xs)
  | _, _ => none
theorem PE.or {t u : TE} (h : PE X e t) (h' : PE X e u) : PE X e (fun σ H Q => t σ H Q ∨ u σ H Q) := ⟨fun pins s σ H Q I q => q.elim (h.run pins s σ H Q I) (h'.run pins s σ H Q I)⟩
theorem PT.or {t u : TT} (h : PT X e t) (h' : PT X e u) : PT X e (fun σ H Q => t σ H Q ∨ u σ H Q) := ⟨fun pins s σ H Q I q => q.elim (h.run pins s σ H Q I) (h'.run pins s σ H Q I)⟩
theorem atI_rep {cl : Nat → Addr} {xs : List D} {vs : List V} {fp : List Addr} (h : RepL K cl B H xs vs fp) {i : Int} {d : D} (e : atI xs i = some d) : ∃ v f, atI vs i = some v ∧ Rep K cl B H d v f ∧ ∀ a ∈ f, a ∈ fp := by
  unfold atI at e ⊢
  rw [← h.length]
  cases hx : ixN xs.length i with
  | none => rw [hx] at e; cases e
  | some j =>
    rw [hx] at e
    obtain ⟨v, f, h1, h2, h3⟩ := h.get (i := j) (d := d) (by simpa using e)
    exact ⟨v, f, by simpa using h1, h2, h3⟩
theorem look_rep {cl : Nat → Addr} {κ : Type} [DecidableEq κ] {ks : List κ} {ds : List D} {vs : List V} {fp : List Addr} (l : ks.length = ds.length) (h : RepL K cl B H ds vs fp) {k : κ} {d : D} (e : look ks ds k = some d) : ∃ v f, valV (ks.zip vs) k = some v ∧ Rep K cl B H d v f ∧ ∀ a ∈ f, a ∈ fp := (zip_val l h k).1 d e
theorem look_no {cl : Nat → Addr} {κ : Type} [DecidableEq κ] {ks : List κ} {ds : List D} {vs : List V} {fp : List Addr} (l : ks.length = ds.length) (h : RepL K cl B H ds vs fp) {k : κ} (e : look ks ds k = none) : valV (ks.zip vs) k = none := (zip_val l h k).2 (look_none.mp e)
theorem ev_sub (hu : X.A.units + 64 < cLine) (ha : EvV X cl a ma) (hb : EvV X cl b mb) (hs : PlainIx b := by exact fun _ _ => rfl) : EvV X cl (.Subscript a b pos) (mOp subscr ma mb) := by
  obtain ⟨ta, pa, ra⟩ := ha
  obtain ⟨tb, pb, rb⟩ := hb
  refine ⟨_, PE.or (pe_ix ix_seq pa pb hs) (pe_dget (by omega) pa pb hs), fun σ A B H R d he Q q => ?_⟩
  obtain ⟨x, y, hx, hy, hg⟩ := mOp_some he
  have T := fun P => two (P := P) ra rb R hx hy
  cases x <;> simp only [subscr] at hg <;> try (cases hg; done)
  case lst mm xs =>
    cases y <;> simp only at hg <;> try (cases hg; done)
    refine .inl (T _ fun u v B' H' f1 f2 n r1 r2 => ?_)
    obtain ⟨p, vs, fq, e1, q1, q2, _⟩ := r1.lst_view n.sub
    rw [rep_int_iff] at r2
    obtain ⟨w, f, k1, k2, _⟩ := atI_rep q2 hg
    exact .inl ⟨p, vs, _, w, e1, r2.1, .of q1, k1, q w B' H' f n k2⟩
  case lsa as xs =>
    cases y <;> simp only at hg <;> try (cases hg; done)
    refine .inl (T _ fun u v B' H' f1 f2 n r1 r2 => ?_)
    simp only [Rep] at r1
    obtain ⟨p, vs, fq, e1, q1, q2, _, _⟩ := r1
    rw [rep_int_iff] at r2
    obtain ⟨w, f, k1, k2, _⟩ := atI_rep q2 hg
    exact .inl ⟨p, vs, _, w, e1, r2.1, .of q1, k1, q w B' H' f n k2⟩
  case tup xs =>
    cases y <;> simp only at hg <;> try (cases hg; done)
    refine .inl (T _ fun u v B' H' f1 f2 n r1 r2 => ?_)
    obtain ⟨p, vs, e1, q1, q2⟩ := r1.tup_view n.sub
    rw [rep_int_iff] at r2
    obtain ⟨w, f, k1, k2, _⟩ := atI_rep q2 hg
    exact .inr (.inl ⟨p, vs, _, w, e1, r2.1, .of q1, k1, q w B' H' f n k2⟩)
  case ktup xs =>
    cases y <;> simp only at hg <;> try (cases hg; done)
    refine .inl (T _ fun u v B' H' f1 f2 n r1 r2 => ?_)
    obtain ⟨p, vs, e1, q1, q2⟩ := r1.ktup_view n.sub
    rw [rep_int_iff] at r2
    obtain ⟨w, f, k1, k2, _⟩ := atI_rep q2 hg
    exact .inr (.inl ⟨p, vs, _, w, e1, r2.1, q1, k1, q w B' H' f n k2⟩)
  case str z =>
    cases y <;> simp only at hg <;> try (cases hg; done)
    by_cases hl : z.length ≤ sizeLine
    · rw [if_pos hl] at hg
      simp only [Option.map_eq_some_iff] at hg
      obtain ⟨c, hc, rfl⟩ := hg
      refine .inl (T _ fun u v B' H' f1 f2 n r1 r2 => ?_)
      rw [rep_int_iff] at r2
      rw [rep_str_iff] at r1
      exact .inr (.inr ⟨z, _, c, r1.1, r2.1, hl, hc, q _ B' H' [] n rep_str⟩)
    · rw [if_neg hl] at hg; cases hg
  case scr ns =>
    cases y <;> simp only at hg <;> try (cases hg; done)
    simp only [Option.map_eq_some_iff] at hg
    obtain ⟨k, hk, rfl⟩ := hg
    refine .inl (T _ fun u v B' H' f1 f2 n r1 r2 => ?_)
    rw [rep_int_iff] at r2
    simp only [Rep] at r1
    obtain ⟨p, e1, q1, _⟩ := r1
    exact .inl ⟨p, _, _, .int k, e1, r2.1, n.sub.sqL q1, by rw [atI_map, hk]; rfl, q _ B' H' [] n rep_int⟩
  case dct mm ks xs =>
    simp only [Option.bind_eq_some_iff] at hg
    obtain ⟨k, hk, hg⟩ := hg
    refine .inr (T _ fun u v B' H' f1 f2 n r1 r2 => ?_)
    obtain ⟨p, vs, fq, e1, q1, l, q2⟩ := r1.dct_view n.sub
    obtain ⟨w, f, k1, k2, _⟩ := look_rep l q2 hg
    exact ⟨p, w, e1, .inl ⟨_, k, q1, keyD_v hk r2, k1.symm⟩, q w B' H' f n k2⟩
  case dtt mm ks xs =>
    cases y <;> simp only at hg <;> try (cases hg; done)
    simp only [Option.bind_eq_some_iff] at hg
    obtain ⟨k, hk, hg⟩ := hg
    refine .inr (T _ fun u v B' H' f1 f2 n r1 r2 => ?_)
    obtain ⟨p, vs, fq, e1, q1, l, q2⟩ := r1.dtt_view n.sub
    obtain ⟨p2, ws, e2, q3, q4⟩ := r2.tup_view n.sub
    obtain ⟨w, f, k1, k2, _⟩ := look_rep l q2 hg
    rw [keysD_v hk q4] at q3
    exact ⟨p, w, e1, .inr ⟨_, k, p2, q1, e2, q3, k1.symm⟩, q w B' H' f n k2⟩
theorem RepL.drop {cl : Nat → Addr} {xs : List D} {vs : List V} (h : RepL K cl B H xs vs []) : ∀ n : Nat, RepL K cl B H (xs.drop n) (vs.drop n) [] := by
  intro n
  induction n generalizing xs vs with
  | zero => exact h
  | succ n ih =>
    cases xs with
    | nil => simp only [RepL] at h; rw [h.1]; simpa using repL_nil
    | cons x xs =>
      simp only [RepL] at h
      obtain ⟨v, vr, f1, f2, e1, e2, _, r⟩ := h
      subst e1
      have : f2 = [] := (List.append_eq_nil_iff.mp e2.symm).2
      subst this
      simpa using ih r
theorem RepL.take {cl : Nat → Addr} {xs : List D} {vs : List V} (h : RepL K cl B H xs vs []) : ∀ n : Nat, RepL K cl B H (xs.take n) (vs.take n) [] := by
  intro n
  induction n generalizing xs vs with
  | zero => simpa using repL_nil
  | succ n ih =>
    cases xs with
    | nil => simp only [RepL] at h; rw [h.1]; simpa using repL_nil
    | cons x xs =>
      simp only [RepL] at h
      obtain ⟨v, vr, f1, f2, e1, e2, r0, r⟩ := h
      subst e1
      have h1 : f1 = [] := (List.append_eq_nil_iff.mp e2.symm).1
      have h2 : f2 = [] := (List.append_eq_nil_iff.mp e2.symm).2
      subst h1 h2
      simpa using repL_cons r0 (ih r)
end
end VI
set_option Elab.async false
set_option linter.all false
set_option maxRecDepth 100000
set_option autoImplicit false
namespace VI
open PySem L2
section
variable {X : Cx} {cl : Tb} {e a b c : Expr} {es : List Expr} {m ma mb mc : Ev → Option D} {ms : Ev → Option (List D)} {pos p : Pos} {B H : Hp} {K : PySem.W.Frag}
def eqF : D → D → Bool
  | .non, .non => true
  | .bl a, .bl b => a == b
  | .bl a, .int b => (if a then 1 else 0) == b
  | .int a, .bl b => a == (if b then 1 else 0)
  | .int a, .int b => a == b
  | .str a, .str b => a == b
  | _, _ => false
def flatD : D → Bool
  | .non => true | .bl _ => true | .int _ => true | .str _ => true
  | _ => false
def inF (x : D) (xs : List D) : Bool := xs.any fun y => eqF y x
theorem flat_v {cl : Nat → Addr} {d : D} {v : V} {fp : List Addr} (f : flatD d = true) (r : Rep K cl B H d v fp) : flatV v = true := by
  cases d <;> simp only [flatD] at f <;> try (cases f; done)
  · rw [rep_non_iff] at r; rw [r.1]; rfl
  · rw [rep_bl_iff] at r; rw [r.1]; rfl
  · rw [rep_int_iff] at r; rw [r.1]; rfl
  · rw [rep_str_iff] at r; rw [r.1]; rfl
theorem eqF_v {cl : Nat → Addr} {x y : D} {u v : V} {f1 f2 : List Addr} (fx : flatD x = true) (fy : flatD y = true) (r1 : Rep K cl B H x u f1) (r2 : Rep K cl B H y v f2) : eqV u v = eqF x y := by
  cases x <;> simp only [flatD] at fx <;> try (cases fx; done)
  all_goals (cases y <;> simp only [flatD] at fy <;> try (cases fy; done))
  all_goals (simp only [Rep] at r1 r2; rw [r1.1, r2.1]; rfl)
theorem inF_v {cl : Nat → Addr} {x : D} {v : V} {f1 : List Addr} (fx : flatD x = true) (r : Rep K cl B H x v f1) : ∀ {xs : List D} {vs : List V} {fp : List Addr}, xs.all flatD = true → RepL K cl B H xs vs fp → vs.all flatV = true ∧ inV v vs = inF x xs
  | [], _, _, _, h => by simp only [RepL] at h; rw [h.1]; exact ⟨rfl, rfl⟩
  | y :: xs, _, _, f, h => by
    simp only [RepL] at h
    obtain ⟨w, vr, g1, g2, e1, _, q1, q2⟩ := h
    rw [List.all_cons, Bool.and_eq_true] at f
    obtain ⟨i1, i2⟩ := inF_v fx r f.2 q2
    subst e1
    refine ⟨by rw [List.all_cons, flat_v f.1 q1, i1]; rfl, ?_⟩
    unfold inV inF at i2 ⊢
    rw [List.any_cons, List.any_cons, eqF_v f.1 fx q1 r, i2]
def inP (x : D) (xs : List D) : Option Bool := (x.py).bind fun p => (D.pyL xs).bind fun ps => if SeqAt.shaped p = true ∧ SeqAt.shaped (.list ps) = true then some (ps.any fun z => PyData.eqv z p) else none
def inD (x y : D) : Option D := match y with
  | .lst _ xs => if flatD x = true ∧ xs.all flatD = true then some (.bl (inF x xs)) else (inP x xs).map .bl
  | .tup xs => if flatD x = true ∧ xs.all flatD = true then some (.bl (inF x xs)) else none
  | .ktup xs => if flatD x = true ∧ xs.all flatD = true then some (.bl (inF x xs)) else none
  | .str s => match x with
    | .str z => if z.length = 1 then some (.bl (decide (z.cps.getD 0 0 ∈ s.cps.toList))) else none
    | _ => none
  | .dct _ ks ds => (keyD x).map fun k => .bl (look ks ds k).isSome
  | .dtt _ ks ds => match x with
    | .tup xs => (keysD xs).map fun k => .bl (look ks ds k).isSome
    | _ => none
  | _ => none
def ninD (x y : D) : Option D := match inD x y with
  | some (.bl b) => some (.bl (!b))
  | _ => none
abbrev rInA (K : PySem.W.Frag) (neg : Bool) : R2 := fun x y H Q => rIn K neg x y H Q ∨ (∃ d ds, Dp K H x d ∧ Dp K H y (.list ds) ∧ SeqAt.shaped d = true ∧ SeqAt.shaped (.list ds) = true ∧ Q (.bl (if neg then !ds.any fun z => PyData.eqv z d else ds.any fun z => PyData.eqv z d)) H) ∨
  (∃ (c : Nat) (z : Str), x = .str ⟨#[c]⟩ ∧ y = .str z ∧ Q (.bl (if neg then !decide (c ∈ z.cps.toList) else decide (c ∈ z.cps.toList))) H)
theorem op_inA (hu : X.A.units + 65 < cLine) : OpR X (compareOp .In) (rInA X.K false) := op_in_seq.or (OpR.or (op_inD hu) op_in_sign)
theorem one_sign {z : Str} (h : z.length = 1) : z = ⟨#[z.cps.getD 0 0]⟩ := by
  obtain ⟨cps⟩ := z
  obtain ⟨l⟩ := cps
  have hl : l.length = 1 := h
  match l, hl with
  | [c], _ => rfl
theorem valV_some {cl : Nat → Addr} {κ : Type} [DecidableEq κ] {ks : List κ} {ds : List D} {vs : List V} {fp : List Addr} (l : ks.length = ds.length) (h : RepL K cl B H ds vs fp) (k : κ) : (valV (ks.zip vs) k).isSome = (look ks ds k).isSome := by
  cases e : look ks ds k with
  | none => rw [look_no l h e]; rfl
  | some d => obtain ⟨v, _, q, _⟩ := look_rep l h e; rw [q]; rfl
def dictish : D → Bool
  | .dct _ _ _ => true
  | .dtt _ _ _ => true
  | _ => false
theorem inA_seq {cl : Nat → Addr} {neg : Bool} {x y : D} {r : Bool} {u v : V} {f1 f2 : List Addr} {Q : VK} (nd : dictish y = false) (s : BLe B H) (r1 : Rep K cl B H x u f1) (r2 : Rep K cl B H y v f2) (hg : inD x y = some (.bl r)) (q : Q (.bl (if neg then !r else r)) H) : rInA K neg u v H Q := by
  cases y <;> simp only [inD] at hg <;> try (cases hg; done)
  case lst mm xs =>
    obtain ⟨p, vs, fq, e1, q1, q2, _⟩ := r2.lst_view s
    by_cases hf : flatD x = true ∧ xs.all flatD = true
    · rw [if_pos hf] at hg; cases hg
      obtain ⟨i1, i2⟩ := inF_v hf.1 r1 hf.2 q2
      exact .inl ⟨p, vs, e1, .inl (.of q1), flat_v hf.1 r1, i1, by rw [i2]; exact q⟩
    · rw [if_neg hf] at hg
      simp only [Option.map_eq_some_iff, D.bl.injEq] at hg
      obtain ⟨b', hg, rfl⟩ := hg
      unfold inP at hg
      simp only [Option.bind_eq_some_iff] at hg
      obtain ⟨dp, h1, ps, h2, h3⟩ := hg
      by_cases hs : SeqAt.shaped dp = true ∧ SeqAt.shaped (.list ps) = true
      · rw [if_pos hs] at h3; cases h3
        subst e1
        exact .inr (.inl ⟨dp, ps, dp_of s r1 h1, .lst (.of q1) (dp_ofL s q2 h2), hs.1, hs.2, q⟩)
      · rw [if_neg hs] at h3; cases h3
  case tup xs =>
    obtain ⟨p, vs, e1, q1, q2⟩ := r2.tup_view s
    by_cases hf : flatD x = true ∧ xs.all flatD = true
    · rw [if_pos hf] at hg; cases hg
      obtain ⟨i1, i2⟩ := inF_v hf.1 r1 hf.2 q2
      exact .inl ⟨p, vs, e1, .inr (.of q1), flat_v hf.1 r1, i1, by rw [i2]; exact q⟩
    · rw [if_neg hf] at hg; cases hg
  case ktup xs =>
    obtain ⟨p, vs, e1, q1, q2⟩ := r2.ktup_view s
    by_cases hf : flatD x = true ∧ xs.all flatD = true
    · rw [if_pos hf] at hg; cases hg
      obtain ⟨i1, i2⟩ := inF_v hf.1 r1 hf.2 q2
      exact .inl ⟨p, vs, e1, .inr q1, flat_v hf.1 r1, i1, by rw [i2]; exact q⟩
    · rw [if_neg hf] at hg; cases hg
  case str z =>
    cases x <;> simp only at hg <;> try (cases hg; done)
    rename_i w
    by_cases hl : w.length = 1
    · rw [if_pos hl] at hg; cases hg
      rw [rep_str_iff] at r1 r2
      exact .inr (.inr ⟨_, z, by rw [r1.1, ← one_sign hl], r2.1, q⟩)
    · rw [if_neg hl] at hg; cases hg
  case dct mm ks xs => cases nd
  case dtt mm ks xs => cases nd
theorem inA_dict {cl : Nat → Addr} {x y : D} {r : Bool} {u v : V} {f1 f2 : List Addr} (nd : dictish y = true) (s : BLe B H) (r1 : Rep K cl B H x u f1) (r2 : Rep K cl B H y v f2) (hg : inD x y = some (.bl r)) : ∃ a o, v = .ref a ∧ DGet H a u o ∧ r = o.isSome := by
  cases y <;> simp only [dictish] at nd <;> try (cases nd; done)
  case dct mm ks xs =>
    simp only [inD, Option.map_eq_some_iff, D.bl.injEq] at hg
    obtain ⟨k, hk, rfl⟩ := hg
    obtain ⟨p, vs, fq, e1, q1, l, q2⟩ := r2.dct_view s
    exact ⟨p, _, e1, .inl ⟨_, k, q1, keyD_v hk r1, rfl⟩, (valV_some l q2 k).symm⟩
  case dtt mm ks xs =>
    simp only [inD] at hg
    cases x <;> simp only at hg <;> try (cases hg; done)
    simp only [Option.map_eq_some_iff, D.bl.injEq] at hg
    obtain ⟨k, hk, rfl⟩ := hg
    obtain ⟨p, vs, fq, e1, q1, l, q2⟩ := r2.dtt_view s
    obtain ⟨p2, ws, e2, q3, q4⟩ := r1.tup_view s
    rw [keysD_v hk q4] at q3
    exact ⟨p, _, e1, .inr ⟨_, k, p2, q1, e2, q3, rfl⟩, (valV_some l q2 k).symm⟩
theorem inD_bl {x y d : D} (h : inD x y = some d) : ∃ b, d = .bl b := by
  cases y <;> simp only [inD] at h <;> try (cases h; done)
  case lst mm xs =>
    split at h
    · cases h; exact ⟨_, rfl⟩
    · simp only [Option.map_eq_some_iff] at h; obtain ⟨_, _, e⟩ := h; exact ⟨_, e.symm⟩
  case tup xs =>
    split at h
    · cases h; exact ⟨_, rfl⟩
    · cases h
  case ktup xs =>
    split at h
    · cases h; exact ⟨_, rfl⟩
    · cases h
  case str z =>
    cases x <;> simp only at h <;> try (cases h; done)
    split at h
    · cases h; exact ⟨_, rfl⟩
    · cases h
  case dct mm ks xs => simp only [Option.map_eq_some_iff] at h; obtain ⟨_, _, e⟩ := h; exact ⟨_, e.symm⟩
  case dtt mm ks xs =>
    cases x <;> simp only at h <;> try (cases h; done)
    simp only [Option.map_eq_some_iff] at h; obtain ⟨_, _, e⟩ := h; exact ⟨_, e.symm⟩
theorem ev_in (hu : X.A.units + 65 < cLine) (ha : EvV X cl a ma) (hb : EvV X cl b mb) (hm : behindInMarks .In b = false := by with_unfolding_all rfl) : EvD X cl (.Compare a [.In] [b] pos) (mOp inD ma mb) := by
  obtain ⟨ta, pa, ra⟩ := ha
  obtain ⟨tb, pb, rb⟩ := hb
  refine ⟨_, PE.or (pe_cmpR (op_inA hu) pa pb hm) (pe_cmp (pc_din (by omega) pa pb) hm), fun σ A B H R d he Q q => ?_⟩
  obtain ⟨x, y, hx, hy, hg⟩ := mOp_some he
  obtain ⟨r, rfl⟩ := inD_bl hg
  cases hy' : dictish y with
  | false => exact .inl (two ra rb R hx hy fun u v B' H' f1 f2 n r1 r2 => inA_seq (neg := false) hy' n.sub r1 r2 hg (q _ B' H' [] n rep_bl Fresh.nil))
  | true =>
    refine .inr (two ra rb R hx hy fun u v B' H' f1 f2 n r1 r2 => ?_)
    obtain ⟨p, o, e1, g, hr⟩ := inA_dict hy' n.sub r1 r2 hg
    exact ⟨p, o, e1, g, by rw [← hr]; exact q _ B' H' [] n rep_bl Fresh.nil⟩
def mCh (g g' : D → D → Option D) (ma mb mc : Ev → Option D) : Ev → Option D := fun A => (ma A).bind fun x => (mb A).bind fun y => match g x y with
  | some (.bl true) => (mc A).bind fun z => g' y z
  | some (.bl false) => some (.bl false)
  | _ => none
theorem ev_chain_core {r r' : R2} {g g' : D → D → Option D} {ta tb tc : TE} (hd : OpD X cl r g) (hd' : OpD X cl r' g')
    (ra : ∀ σ A B H, REnv X.K cl B H σ A → ∀ d, ma A = some d → ∀ Q : VK, (∀ v B' H' fp, New B H B' H' → Rep X.K cl B' H' d v fp → Q v H') → ta σ H Q)
    (rb : ∀ σ A B H, REnv X.K cl B H σ A → ∀ d, mb A = some d → ∀ Q : VK, (∀ v B' H' fp, New B H B' H' → Rep X.K cl B' H' d v fp → Q v H') → tb σ H Q)
    (rc : ∀ σ A B H, REnv X.K cl B H σ A → ∀ d, mc A = some d → ∀ Q : VK, (∀ v B' H' fp, New B H B' H' → Rep X.K cl B' H' d v fp → Q v H') → tc σ H Q)
    {σ : St} {A : Ev} {B H : Hp} (R : REnv X.K cl B H σ A) {d : D} (he : mCh g g' ma mb mc A = some d) (Q : VK) (q : ∀ v B' H' fp, New B H B' H' → Rep X.K cl B' H' d v fp → Fresh H B' fp → Q v H') : tChain r r' ta tb tc σ H Q := by
  unfold mCh at he
  simp only [Option.bind_eq_some_iff] at he
  obtain ⟨x, hx, y, hy, he⟩ := he
  refine two ra rb R hx hy fun u v B' H' f1 f2 n r1 r2 => ?_
  split at he
  · rename_i hg
    simp only [Option.bind_eq_some_iff] at he
    obtain ⟨z, hz, hg'⟩ := he
    refine hd B' H' x y _ u v f1 f2 (R.blt n) r1 r2 hg _ fun w B2 H2 fp n2 rw f => ?_
    rw [rep_bl_iff] at rw
    refine ⟨true, rw.1, ?_⟩
    rw [if_pos rfl]
    have n3 := n.trans n2
    refine rc σ A B2 H2 (R.news n3) z hz _ fun w' B4 H4 f4 n4 r4 => ?_
    exact hd' B4 H4 y z d v w' _ _ (R.blt (n3.trans n4)) ((r2.news n2).news n4) r4 hg' Q fun w2 B5 H5 fp5 n5 r5 f5 => q w2 B5 H5 fp5 ((n3.trans n4).trans n5) r5 (fresh_trans (n3.trans n4) f5)
  · rename_i hg
    cases he
    refine hd B' H' x y _ u v f1 f2 (R.blt n) r1 r2 hg _ fun w B2 H2 fp n2 rw f => ?_
    rw [rep_bl_iff] at rw
    refine ⟨false, rw.1, ?_⟩
    rw [if_neg Bool.false_ne_true]
    exact q _ B2 H2 [] (n.trans n2) rep_bl Fresh.nil
  · cases he
theorem et_chain {op op' : CmpOp} {r r' : R2} {g g' : D → D → Option D} (ho : OpR X (compareOp op) r) (hd : OpD X cl r g) (ho' : OpR X (compareOp op') r') (hd' : OpD X cl r' g') (ha : EvV X cl a ma) (hb : EvV X cl b mb) (hc : EvV X cl c mc)
    (hm : lastMarks [op, op'] [b, c] = false := by with_unfolding_all rfl) : EvT X cl (.Compare a [op, op'] [b, c] pos) (mT (mCh g g' ma mb mc)) := by
  obtain ⟨ta, pa, ra⟩ := ha
  obtain ⟨tb, pb, rb⟩ := hb
  obtain ⟨tc, pc, rc⟩ := hc
  refine ⟨_, pt_chain ho ho' pa pb pc hm, fun σ A B H R k he Q q => ev_chain_core hd hd' ra rb rc R (mT_some he) _ fun v B' H' fp n rp f => ?_⟩
  rw [rep_bl_iff] at rp
  exact ⟨k, rp.1, q B' H' n⟩
def mCall (g : List D → Option D) (ms : Ev → Option (List D)) : Ev → Option D := fun A => (ms A).bind g
def CallD (X : Cx) (cl : Tb) (r : List V → Hp → VK → Prop) (g : List D → Option D) : Prop :=
  ∀ (B H : Hp) (ds : List D) (d : D) (vs : List V) (fp : List Addr), BLt cl B H → RepL X.K cl B H ds vs fp → g ds = some d → ∀ Q : VK, (∀ w B' H' fp, New B H B' H' → Rep X.K cl B' H' d w fp → Fresh H B' fp → Q w H') → r vs H Q
theorem ev_callB {id : String} {r : List V → Hp → VK → Prop} {g : List D → Option D} {x : Str} (hc : CallR X (.builtin id) r) (hd : CallD X cl r g) (hg : Gl X x) (hm : X.mg x = none) (hv : bootBuiltins x = some (.builtin id)) (ha : EvA X cl (e :: es) ms) (hn : x ≠ "__name__" := by decide) (hdb : (x == ("__debug__" : Str)) = false := by decide)
    (he : starEach (e :: es) X.env = (false, eval e X.env) :: starEach es X.env := by rfl) (hpl : (backTo pos (starEach es X.env)).any (·.1) = false := by rfl) : EvD X cl (.Call (.Name x p) (e :: es) [] pos) (mCall g ms) := by
  obtain ⟨t, pa, ra⟩ := ha
  refine ⟨_, pe_callB hc hg hm hv pa hn hdb he hpl, fun σ A B H R d he Q q => ?_⟩
  unfold mCall at he
  simp only [Option.bind_eq_some_iff] at he
  obtain ⟨ds, h1, h2⟩ := he
  exact ra σ A B H R ds h1 _ fun vs B1 H1 f1 n1 rp => hd B1 H1 ds d vs f1 (R.blt n1) rp h2 Q fun w B2 H2 f2 n2 r2 f => q w B2 H2 f2 (n1.trans n2) r2 (fresh_trans n1 f)
theorem ev_callT {T : String} {r : List V → Hp → VK → Prop} {g : List D → Option D} {x : Str} (hc : CallR X (.type T) r) (hd : CallD X cl r g) (hg : Gl X x) (hm : X.mg x = none) (hv : bootBuiltins x = some (.type T)) (ha : EvA X cl (e :: es) ms) (hn : x ≠ "__name__" := by decide) (hdb : (x == ("__debug__" : Str)) = false := by decide)
    (he : starEach (e :: es) X.env = (false, eval e X.env) :: starEach es X.env := by rfl) (hpl : (backTo pos (starEach es X.env)).any (·.1) = false := by rfl) : EvD X cl (.Call (.Name x p) (e :: es) [] pos) (mCall g ms) := by
  obtain ⟨t, pa, ra⟩ := ha
  refine ⟨_, pe_callTy hc hg hm hv pa hn hdb he hpl, fun σ A B H R d he Q q => ?_⟩
  unfold mCall at he
  simp only [Option.bind_eq_some_iff] at he
  obtain ⟨ds, h1, h2⟩ := he
  exact ra σ A B H R ds h1 _ fun vs B1 H1 f1 n1 rp => hd B1 H1 ds d vs f1 (R.blt n1) rp h2 Q fun w B2 H2 f2 n2 r2 f => q w B2 H2 f2 (n1.trans n2) r2 (fresh_trans n1 f)
theorem repL_one {cl : Nat → Addr} {d : D} {vs : List V} {fp : List Addr} (h : RepL K cl B H [d] vs fp) : ∃ v, vs = [v] ∧ Rep K cl B H d v fp := by
  simp only [RepL] at h
  obtain ⟨v, vr, f1, f2, e1, e2, r, e3, e4⟩ := h
  subst e1 e2 e3 e4
  exact ⟨v, rfl, by simpa using r⟩
theorem repL_two {cl : Nat → Addr} {d d' : D} {vs : List V} {fp : List Addr} (h : RepL K cl B H [d, d'] vs fp) : ∃ v w f1 f2, vs = [v, w] ∧ Rep K cl B H d v f1 ∧ Rep K cl B H d' w f2 ∧ fp = f1 ++ f2 := by
  simp only [RepL] at h
  obtain ⟨v, vr, f1, f2, e1, e2, r, v', vr', f1', f2', e3, e4, r', e5, e6⟩ := h
  subst e1 e2 e3 e4 e5 e6
  exact ⟨v, v', f1, f1', rfl, r, r', by simp⟩
def lenD : List D → Option D
  | [.lst _ xs] => some (.int xs.length)
  | [.tup xs] => some (.int xs.length)
  | [.ktup xs] => some (.int xs.length)
  | [.scr ns] => some (.int ns.length)
  | [.str s] => if s.length ≤ sizeLine then some (.int s.length) else none
  | [.dct _ ks _] => some (.int ks.length)
  | _ => none
abbrev rLenA (X : Cx) : List V → Hp → VK → Prop := fun xs H Q => (∃ p ys, xs = [.ref p] ∧ (SqL X.K H p ys ∨ SqT X.K H p ys) ∧ Q (.int ys.length) H) ∨ (∃ z, xs = [.str z] ∧ z.length ≤ sizeLine ∧ Q (.int z.length) H) ∨ (∃ p kvs, xs = [.ref p] ∧ Rd H p (.dK kvs) ∧ Q (.int kvs.length) H)
theorem call_lenDk : CallR X (.builtin "len") (fun xs H Q => ∃ p kvs, xs = [.ref p] ∧ Rd H p (.dK kvs) ∧ Q (.int kvs.length) H) := by
  intro pins s σ H xs us Q I r h
  obtain ⟨p, kvs, rfl, hd, q⟩ := h
  obtain ⟨u, rfl, ru⟩ := vals1 r
  cases ru
  exact d_len I hd fun t s' I' => ⟨.int kvs.length, H, I', ⟨t, rfl⟩, q⟩
theorem call_lenA : CallR X (.builtin "len") (rLenA X) := call_len_seq.or (call_len_str.or call_lenDk)
theorem lenD_ok : CallD X cl (rLenA X) lenD := by
  intro B H ds d vs fp s r0 hg Q q
  unfold lenD at hg
  split at hg <;> first | (cases hg; done) | skip
  · cases hg; obtain ⟨v, e0, r⟩ := repL_one r0; subst e0
    obtain ⟨a, ws, fq, e1, q1, q2, _⟩ := r.lst_view s
    exact .inl ⟨a, ws, by rw [e1], .inl (.of q1), by rw [← q2.length]; exact q _ B H [] (New.refl s) rep_int Fresh.nil⟩
  · cases hg; obtain ⟨v, e0, r⟩ := repL_one r0; subst e0
    obtain ⟨a, ws, e1, q1, q2⟩ := r.tup_view s
    exact .inl ⟨a, ws, by rw [e1], .inr (.of q1), by rw [← q2.length]; exact q _ B H [] (New.refl s) rep_int Fresh.nil⟩
  · cases hg; obtain ⟨v, e0, r⟩ := repL_one r0; subst e0
    obtain ⟨a, ws, e1, q1, q2⟩ := r.ktup_view s
    exact .inl ⟨a, ws, by rw [e1], .inr q1, by rw [← q2.length]; exact q _ B H [] (New.refl s) rep_int Fresh.nil⟩
  · cases hg; obtain ⟨v, e0, r⟩ := repL_one r0; subst e0
    simp only [Rep] at r
    obtain ⟨a, e1, q1, _⟩ := r
    exact .inl ⟨a, _, by rw [e1], .inl (s.sqL q1), by rw [List.length_map]; exact q _ B H [] (New.refl s) rep_int Fresh.nil⟩
  · split at hg
    · cases hg; obtain ⟨v, e0, r⟩ := repL_one r0; subst e0
      rw [rep_str_iff] at r
      rename_i hl
      exact .inr (.inl ⟨_, by rw [r.1], hl, q _ B H [] (New.refl s) rep_int Fresh.nil⟩)
    · cases hg
  · cases hg; obtain ⟨v, e0, r⟩ := repL_one r0; subst e0
    obtain ⟨a, ws, fq, e1, q1, l, q2⟩ := r.dct_view s
    exact .inr (.inr ⟨a, _, by rw [e1], q1, by rw [List.length_zip, ← q2.length, ← l, Nat.min_self]; exact q _ B H [] (New.refl s) rep_int Fresh.nil⟩)
def absD : List D → Option D
  | [.int i] => some (.int (if i < 0 then -i else i))
  | _ => none
theorem absD_ok : CallD X cl (fun xs H Q => ∃ i, xs = [.int i] ∧ Q (.int (if i < 0 then -i else i)) H) absD := by
  intro B H ds d vs fp s r0 hg Q q
  unfold absD at hg
  split at hg <;> first | (cases hg; done) | skip
  cases hg; obtain ⟨v, e0, r⟩ := repL_one r0; subst e0
  rw [rep_int_iff] at r
  exact ⟨_, by rw [r.1], q _ B H [] (New.refl s) rep_int Fresh.nil⟩
def intD : List D → Option D
  | [.int i] => some (.int i)
  | [.bl b] => some (.int (if b then 1 else 0))
  | _ => none
theorem intD_ok : CallD X cl (fun xs H Q => (∃ i, xs = [.int i] ∧ Q (.int i) H) ∨ ∃ k, xs = [.bl k] ∧ Q (.int (if k then 1 else 0)) H) intD := by
  intro B H ds d vs fp s r0 hg Q q
  unfold intD at hg
  split at hg <;> first | (cases hg; done) | skip
  · cases hg; obtain ⟨v, e0, r⟩ := repL_one r0; subst e0
    rw [rep_int_iff] at r
    exact .inl ⟨_, by rw [r.1], q _ B H [] (New.refl s) rep_int Fresh.nil⟩
  · cases hg; obtain ⟨v, e0, r⟩ := repL_one r0; subst e0
    rw [rep_bl_iff] at r
    exact .inr ⟨_, by rw [r.1], q _ B H [] (New.refl s) rep_int Fresh.nil⟩
def intsD : List D → Option (List Int)
  | [] => some []
  | .int i :: r => (intsD r).map (i :: ·)
  | _ => none
theorem intsD_v {cl : Nat → Addr} : ∀ {xs : List D} {ns : List Int} {vs : List V} {fp : List Addr}, intsD xs = some ns → RepL K cl B H xs vs fp → vs = ns.map V.int
  | [], _, _, _, h, r => by simp only [intsD] at h; cases h; simp only [RepL] at r; rw [r.1]; rfl
  | d :: ds, _, _, _, h, r => by
    cases d <;> simp only [intsD] at h <;> try (cases h; done)
    simp only [Option.map_eq_some_iff] at h
    obtain ⟨ns, h, rfl⟩ := h
    simp only [RepL] at r
    obtain ⟨v, vr, f1, f2, e1, _, r1, r2⟩ := r
    rw [rep_int_iff] at r1
    rw [e1, r1.1, intsD_v h r2]; rfl
theorem intsD_map (ns : List Int) : intsD (ns.map D.int) = some ns := by
  induction ns with
  | nil => rfl
  | cons n ns ih => simp only [List.map_cons, intsD, ih, Option.map_some]
def maxL : List Int → Option Int
  | [] => none
  | n :: ns => some (ns.foldl max n)
def minL : List Int → Option Int
  | [] => none
  | n :: ns => some (ns.foldl min n)
def maxD : List D → Option D
  | [.int i, .int j] => some (.int (if j > i then j else i))
  | [.lst _ xs] => (intsD xs).bind fun ns => (maxL ns).map .int
  | _ => none
def minD : List D → Option D
  | [.int i, .int j] => some (.int (if j < i then j else i))
  | [.lst _ xs] => (intsD xs).bind fun ns => (minL ns).map .int
  | _ => none
theorem foldl_max : ∀ (ns : List Int) (n : Int), ns.foldl max n ∈ n :: ns ∧ ∀ y ∈ n :: ns, y ≤ ns.foldl max n
  | [], n => by simp
  | k :: ns, n => by
    obtain ⟨h1, h2⟩ := foldl_max ns (max n k)
    rw [List.foldl_cons]
    refine ⟨?_, fun y hy => ?_⟩
    · rcases List.mem_cons.mp h1 with e | e
      · rw [e]; rcases Int.le_total n k with q | q
        · rw [Int.max_eq_right q]; simp
        · rw [Int.max_eq_left q]; simp
      · simp [e]
    · rcases List.mem_cons.mp hy with rfl | hy
      · exact Int.le_trans (Int.le_max_left _ _) (h2 _ List.mem_cons_self)
      · rcases List.mem_cons.mp hy with rfl | hy
        · exact Int.le_trans (Int.le_max_right _ _) (h2 _ List.mem_cons_self)
        · exact h2 y (List.mem_cons_of_mem _ hy)
theorem foldl_min : ∀ (ns : List Int) (n : Int), ns.foldl min n ∈ n :: ns ∧ ∀ y ∈ n :: ns, ns.foldl min n ≤ y
  | [], n => by simp
  | k :: ns, n => by
    obtain ⟨h1, h2⟩ := foldl_min ns (min n k)
    rw [List.foldl_cons]
    refine ⟨?_, fun y hy => ?_⟩
    · rcases List.mem_cons.mp h1 with e | e
      · rw [e]; rcases Int.le_total n k with q | q
        · rw [Int.min_eq_left q]; simp
        · rw [Int.min_eq_right q]; simp
      · simp [e]
    · rcases List.mem_cons.mp hy with rfl | hy
      · exact Int.le_trans (h2 _ List.mem_cons_self) (Int.min_le_left _ _)
      · rcases List.mem_cons.mp hy with rfl | hy
        · exact Int.le_trans (h2 _ List.mem_cons_self) (Int.min_le_right _ _)
        · exact h2 y (List.mem_cons_of_mem _ hy)
theorem maxD_ok : CallD X cl (fun xs H Q => (∃ i j, xs = [.int i, .int j] ∧ Q (.int (if j > i then j else i)) H) ∨ rMax X.K xs H Q) maxD := by
  intro B H ds d vs fp s r0 hg Q q
  unfold maxD at hg
  split at hg <;> first | (cases hg; done) | skip
  · cases hg; obtain ⟨v, w, f1, f2, e0, r1, r2, _⟩ := repL_two r0; subst e0
    rw [rep_int_iff] at r1 r2
    exact .inl ⟨_, _, by rw [r1.1, r2.1], q _ B H [] (New.refl s) rep_int Fresh.nil⟩
  · simp only [Option.bind_eq_some_iff, Option.map_eq_some_iff] at hg
    obtain ⟨ns, h1, k, h2, rfl⟩ := hg
    obtain ⟨v, e0, r⟩ := repL_one r0; subst e0
    obtain ⟨a, ws, fq, e1, q1, q2, _⟩ := r.lst_view s
    rw [intsD_v h1 q2] at q1
    cases ns with
    | nil => cases h2
    | cons n ns =>
      cases h2
      refine .inr ⟨a, n :: ns, by rw [e1], .of q1, by simp, fun k h3 h4 => ?_⟩
      obtain ⟨g1, g2⟩ := foldl_max ns n
      have : k = ns.foldl max n := Int.le_antisymm (g2 _ h3) (h4 _ g1)
      rw [this]
      exact q _ B H [] (New.refl s) rep_int Fresh.nil
theorem minD_ok : CallD X cl (fun xs H Q => (∃ i j, xs = [.int i, .int j] ∧ Q (.int (if j < i then j else i)) H) ∨ rMin X.K xs H Q) minD := by
  intro B H ds d vs fp s r0 hg Q q
  unfold minD at hg
  split at hg <;> first | (cases hg; done) | skip
  · cases hg; obtain ⟨v, w, f1, f2, e0, r1, r2, _⟩ := repL_two r0; subst e0
    rw [rep_int_iff] at r1 r2
    exact .inl ⟨_, _, by rw [r1.1, r2.1], q _ B H [] (New.refl s) rep_int Fresh.nil⟩
  · simp only [Option.bind_eq_some_iff, Option.map_eq_some_iff] at hg
    obtain ⟨ns, h1, k, h2, rfl⟩ := hg
    obtain ⟨v, e0, r⟩ := repL_one r0; subst e0
    obtain ⟨a, ws, fq, e1, q1, q2, _⟩ := r.lst_view s
    rw [intsD_v h1 q2] at q1
    cases ns with
    | nil => cases h2
    | cons n ns =>
      cases h2
      refine .inr ⟨a, n :: ns, by rw [e1], .of q1, by simp, fun k h3 h4 => ?_⟩
      obtain ⟨g1, g2⟩ := foldl_min ns n
      have : k = ns.foldl min n := Int.le_antisymm (h4 _ g1) (g2 _ h3)
      rw [this]
      exact q _ B H [] (New.refl s) rep_int Fresh.nil
def lstD : List D → Option D
  | [.lst _ xs] => if D.plainL xs = true then some (.lst true xs) else none
  | [.tup xs] => if D.plainL xs = true then some (.lst true xs) else none
  | [.ktup xs] => some (.lst true xs)
  | [.dct _ ks _] => some (.lst true (ks.map fun k => match k with | .inl i => .int i | .inr s => .str s))
  | _ => none
end
end VI
set_option Elab.async false
set_option linter.all false
set_option maxRecDepth 100000
set_option autoImplicit false
namespace VI
open PySem L2
structure GS where
  H0 : Hp
  B0 : Hp
  S0 : List Addr
  kp : List (Nat × V)
  lk : List (Addr × Obj × HO)
structure Good (K : PySem.W.Frag) (cl : Tb) (G : GS) (B H : Hp) (σ : St) (A : Ev) (F : Nat → List Addr) : Prop where
  sub : BLe B H
  len : σ.length = A.length
  at_ : ∀ (i : Nat) (d : D), A[i]? = some (some d) → ∃ v, σ[i]? = some (some v) ∧ Rep K cl B H d v (F i)
  emp : ∀ i, (∀ d, A[i]? ≠ some (some d)) → F i = []
  nd : ∀ i, (F i).Nodup
  dis : ∀ i j, i ≠ j → ∀ a ∈ F i, a ∉ F j
  nb : ∀ i, ∀ a ∈ F i, B a = none
  le0 : BEx G.B0 B
  fr : ∀ a o, NT o → G.H0 a = some o → a ∉ G.S0 → H a = some o ∨ ∃ p ∈ G.lk, p.1 = a ∧ p.2.2 = o
  tk : TKC cl G.H0 H
  own : ∀ i, ∀ a ∈ F i, a ∈ G.S0 ∨ G.H0 a = none
  bnew : ∀ a, B a ≠ none → G.B0 a ≠ none ∨ fot G.H0 a ∨ a ∈ G.S0
  keep : ∀ p ∈ G.kp, σ[p.1]? = some (some p.2)
  lkd : ∀ p ∈ G.lk, H p.1 = some (.frz p.2.1 p.2.2)
  hx : ∀ z, cl.held = some z → (z.i, V.ref z.a) ∈ G.kp ∧ FldsAt K cl B z.d z.fs
section
variable {K : PySem.W.Frag} {cl : Tb} {G : GS} {B H B' H' : Hp} {σ : St} {A : Ev} {F : Nat → List Addr} {d : D} {v : V} {fp : List Addr}
theorem Good.renv (g : Good K cl G B H σ A F) : REnv K cl B H σ A := ⟨g.sub, fun i d e => let ⟨v, e1, r⟩ := g.at_ i d e; ⟨v, _, e1, r⟩, fun z e => ⟨g.keep _ (g.hx z e).1, (g.hx z e).2⟩, g.tk.tab⟩
theorem Good.stand (g : Good K cl G B H σ A F) (i : Nat) : ∀ a ∈ F i, ∃ o, H a = some o := fun a z => by
  by_cases h : ∃ d, A[i]? = some (some d)
  · obtain ⟨d, h⟩ := h
    obtain ⟨v, _, r⟩ := g.at_ i d h
    exact r.stand a z
  · rw [g.emp i fun d e => h ⟨d, e⟩] at z; cases z
theorem Good.stand' (g : Good K cl G B H σ A F) (i : Nat) : ∀ a ∈ F i, ∃ o, H a = some o ∧ ownable o = true := fun a z => by
  by_cases h : ∃ d, A[i]? = some (some d)
  · obtain ⟨d, h⟩ := h
    obtain ⟨v, _, r⟩ := g.at_ i d h
    exact r.stand' a z
  · rw [g.emp i fun d e => h ⟨d, e⟩] at z; cases z
theorem Good.free (g : Good K cl G B H σ A F) {a : Addr} (h : H a = none) : a ∈ G.S0 ∨ G.H0 a = none := by
  by_cases hs : a ∈ G.S0
  · exact .inl hs
  · refine .inr ?_
    cases q : G.H0 a with
    | none => rfl
    | some o =>
      by_cases n : NT o
      · rcases g.fr a o n q hs with e | ⟨p, hp, e1, _⟩
        · rw [h] at e; cases e
        · have := g.lkd p hp; rw [e1, h] at this; cases this
      · obtain ⟨ps, rfl⟩ : ∃ ps, o = .tbl ps := Classical.byContradiction fun z => n fun ps e => z ⟨ps, e⟩
        obtain ⟨more, e2⟩ := g.tk.grow a ps q
        rw [h] at e2; cases e2
theorem Good.freeT (g : Good K cl G B H σ A F) {a : Addr} (h : fot H a) : fot G.H0 a ∨ a ∈ G.S0 := by
  by_cases hs : a ∈ G.S0
  · exact .inr hs
  · refine .inl ?_
    cases q : G.H0 a with
    | none => exact .inl q
    | some o =>
      by_cases n : NT o
      · rcases g.fr a o n q hs with e | ⟨p, hp, e1, _⟩
        · rcases h with h | ⟨vs, h⟩
          · rw [h] at e; cases e
          · rw [h] at e; cases e; exact .inr ⟨vs, q⟩
        · have l := g.lkd p hp
          rw [e1] at l
          rcases h with h | ⟨vs, h⟩
          · rw [h] at l; cases l
          · rw [h] at l; cases l
      · obtain ⟨ps, rfl⟩ : ∃ ps, o = .tbl ps := Classical.byContradiction fun z => n fun ps e => z ⟨ps, e⟩
        obtain ⟨more, e2⟩ := g.tk.grow a ps q
        rcases h with h | ⟨vs, h⟩
        · rw [h] at e2; cases e2
        · rw [h] at e2; cases e2
theorem Good.news (n : New B H B' H') (g : Good K cl G B H σ A F) : Good K cl G B' H' σ A F where
  sub := n.sub
  len := g.len
  at_ := fun i d e => let ⟨v, e1, r⟩ := g.at_ i d e; ⟨v, e1, r.news n⟩
  emp := g.emp
  nd := g.nd
  dis := g.dis
  nb := fun i a z => by
    cases q : B' a with
    | none => rfl
    | some u =>
      rcases n.nb a (by rw [q]; exact fun e => nomatch e) with h | h
      · exact absurd (g.nb i a z) h
      · obtain ⟨o, e, w⟩ := g.stand' i a z; exact (fot_own h e w).elim
  le0 := g.le0.trans n.le
  fr := fun a o nt e hs => (g.fr a o nt e hs).imp (n.ex.keep a o nt) id
  tk := g.tk.trans n.ex.toTK
  own := g.own
  bnew := fun a e => by
    rcases n.nb a e with h | h
    · exact g.bnew a h
    · exact .inr (g.freeT h)
  keep := g.keep
  lkd := fun p hp => n.ex.at_ (g.lkd p hp)
  hx := fun z e => ⟨(g.hx z e).1, (g.hx z e).2.mono n.le⟩
structure Own (G : GS) (B : Hp) (F : Nat → List Addr) (fp : List Addr) : Prop where
  nd : fp.Nodup
  nb : ∀ a ∈ fp, B a = none
  own : ∀ a ∈ fp, a ∈ G.S0 ∨ G.H0 a = none
  dis : ∀ i, ∀ a ∈ fp, a ∉ F i
theorem Own.nil : Own G B F [] := ⟨List.nodup_nil, (fun _ z => nomatch z), (fun _ z => nomatch z), fun _ _ z => nomatch z⟩
theorem Good.ownF (g : Good K cl G B H σ A F) (f : Fresh H B' fp) : Own G B' F fp := ⟨f.nd, f.nb, fun a z => g.free (f.nh a z), fun i a z w => by
  obtain ⟨o, e⟩ := g.stand i a w; rw [f.nh a z] at e; cases e⟩
def setF (F : Nat → List Addr) (i : Nat) (fp : List Addr) : Nat → List Addr := fun j => if j = i then fp else F j
theorem setF_same {i : Nat} : setF F i fp i = fp := by unfold setF; rw [if_pos rfl]
theorem setF_ne {i j : Nat} (h : j ≠ i) : setF F i fp j = F j := by unfold setF; rw [if_neg h]
theorem Good.set {i : Nat} (g : Good K cl G B H σ A F) (hi : i < A.length) (hk : ∀ p ∈ G.kp, p.1 ≠ i) (r : Rep K cl B H d v fp) (w : Own G B F fp) : Good K cl G B H (σ.set i (some v)) (A.set i (some d)) (setF F i fp) where
  sub := g.sub
  len := by rw [List.length_set, List.length_set]; exact g.len
  at_ := fun j d' e => by
    by_cases h : j = i
    · subst h
      rw [List.getElem?_set_self hi] at e
      cases e
      rw [setF_same]
      exact ⟨v, List.getElem?_set_self (by rw [g.len]; exact hi), r⟩
    · rw [List.getElem?_set_ne (Ne.symm h)] at e
      rw [setF_ne h, List.getElem?_set_ne (Ne.symm h)]
      exact g.at_ j d' e
  emp := fun j e => by
    by_cases h : j = i
    · subst h; exact absurd (List.getElem?_set_self hi) (e d)
    · rw [setF_ne h]; exact g.emp j fun d' q => e d' (by rw [List.getElem?_set_ne (Ne.symm h)]; exact q)
  nd := fun j => by by_cases h : j = i
                    · subst h; rw [setF_same]; exact w.nd
                    · rw [setF_ne h]; exact g.nd j
  dis := fun j k hjk a z y => by
    by_cases h : j = i
    · subst h; rw [setF_same] at z; rw [setF_ne (Ne.symm hjk)] at y; exact w.dis k a z y
    · rw [setF_ne h] at z
      by_cases h2 : k = i
      · subst h2; rw [setF_same] at y; exact w.dis j a y z
      · rw [setF_ne h2] at y; exact g.dis j k hjk a z y
  nb := fun j a z => by by_cases h : j = i
                        · subst h; rw [setF_same] at z; exact w.nb a z
                        · rw [setF_ne h] at z; exact g.nb j a z
  le0 := g.le0
  fr := g.fr
  tk := g.tk
  own := fun j a z => by by_cases h : j = i
                         · subst h; rw [setF_same] at z; exact w.own a z
                         · rw [setF_ne h] at z; exact g.own j a z
  bnew := g.bnew
  keep := fun p hp => by rw [List.getElem?_set_ne (Ne.symm (hk p hp))]; exact g.keep p hp
  lkd := g.lkd
  hx := g.hx
theorem Good.kill {i : Nat} (g : Good K cl G B H σ A F) : Good K cl G B H σ (A.set i none) (setF F i []) where
  sub := g.sub
  len := by rw [List.length_set]; exact g.len
  at_ := fun j d' e => by
    by_cases h : j = i
    · subst h
      by_cases hi : j < A.length
      · rw [List.getElem?_set_self hi] at e; cases e
      · rw [List.set_eq_of_length_le (by omega)] at e
        rw [List.getElem?_eq_none (by omega)] at e; cases e
    · rw [List.getElem?_set_ne (Ne.symm h)] at e
      rw [setF_ne h]
      exact g.at_ j d' e
  emp := fun j e => by
    by_cases h : j = i
    · subst h; exact setF_same
    · rw [setF_ne h]; exact g.emp j fun d' q => e d' (by rw [List.getElem?_set_ne (Ne.symm h)]; exact q)
  nd := fun j => by by_cases h : j = i
                    · subst h; rw [setF_same]; exact List.nodup_nil
                    · rw [setF_ne h]; exact g.nd j
  dis := fun j k hjk a z y => by
    by_cases h : j = i
    · subst h; rw [setF_same] at z; cases z
    · rw [setF_ne h] at z
      by_cases h2 : k = i
      · subst h2; rw [setF_same] at y; cases y
      · rw [setF_ne h2] at y; exact g.dis j k hjk a z y
  nb := fun j a z => by by_cases h : j = i
                        · subst h; rw [setF_same] at z; cases z
                        · rw [setF_ne h] at z; exact g.nb j a z
  le0 := g.le0
  fr := g.fr
  tk := g.tk
  own := fun j a z => by by_cases h : j = i
                         · subst h; rw [setF_same] at z; cases z
                         · rw [setF_ne h] at z; exact g.own j a z
  bnew := g.bnew
  keep := g.keep
  lkd := g.lkd
  hx := g.hx
def addB (B H : Hp) (fp : List Addr) : Hp := fun a => if a ∈ fp then H a else B a
theorem addB_in {a : Addr} (h : a ∈ fp) : addB B H fp a = H a := by unfold addB; rw [if_pos h]
theorem addB_out {a : Addr} (h : a ∉ fp) : addB B H fp a = B a := by unfold addB; rw [if_neg h]
theorem addB_le (nb : ∀ a ∈ fp, B a = none) : BEx B (addB B H fp) := fun a u e => by
  rw [addB_out fun z => by rw [nb a z] at e; cases e]; exact e
theorem addB_sub (s : BLe B H) (st : ∀ a ∈ fp, ∃ o, H a = some o ∧ ownable o = true) : BLe (addB B H fp) H where
  nt := fun a ps r => by
    by_cases h : a ∈ fp
    · obtain ⟨o, q, w⟩ := st a h
      rcases r with r | ⟨o, r⟩ <;> rw [addB_in h, q] at r <;> cases r <;> cases w
    · exact s.nt a ps (by rcases r with r | ⟨o, r⟩ <;> rw [addB_out h] at r; exact .inl r; exact .inr ⟨o, r⟩)
  rd := fun a u r => by
    by_cases h : a ∈ fp
    · rcases r with r | ⟨o, r⟩ <;> rw [addB_in h] at r
      · exact .inl r
      · exact .inr ⟨o, r⟩
    · exact s.rd a u (by rcases r with r | ⟨o, r⟩ <;> rw [addB_out h] at r; exact .inl r; exact .inr ⟨o, r⟩)
  ins := fun a C dx fs r => by
    by_cases h : a ∈ fp
    · rw [addB_in h] at r; exact r
    · rw [addB_out h] at r; exact s.ins a C dx fs r
  lst := fun a vs r => by
    by_cases h : a ∈ fp
    · rw [addB_in h] at r; exact r
    · rw [addB_out h] at r; exact s.lst a vs r
  tup := fun a vs r => by
    by_cases h : a ∈ fp
    · rw [addB_in h] at r; exact r
    · rw [addB_out h] at r; exact s.tup a vs r
  xd := fun a l r => by
    by_cases h : a ∈ fp
    · rw [addB_in h] at r; exact r
    · rw [addB_out h] at r; exact s.xd a l r
theorem Good.frz (g : Good K cl G B H σ A F) (r : Rep K cl B H d v fp) (w : Own G B F fp) : Good K cl G (addB B H fp) H σ A F ∧ Rep K cl (addB B H fp) H d.frz v [] := by
  have le := addB_le (H := H) w.nb
  refine ⟨⟨addB_sub g.sub r.stand', g.len, fun i d e => ?_, g.emp, g.nd, g.dis, fun i a z => ?_, g.le0.trans le, g.fr, g.tk, g.own, fun a e => ?_, g.keep, g.lkd, fun z e => ⟨(g.hx z e).1, (g.hx z e).2.mono le⟩⟩, r.frz le.le fun a z => addB_in z⟩
  · obtain ⟨u, e1, q⟩ := g.at_ i d e
    exact ⟨u, e1, q.mono le.le fun _ _ => rfl⟩
  · rw [addB_out fun y => w.dis i a y z]; exact g.nb i a z
  · by_cases h : a ∈ fp
    · rcases w.own a h with q | q
      · exact .inr (.inr q)
      · exact .inr (.inl (.inl q))
    · rw [addB_out h] at e; exact g.bnew a e
end
section
variable {K : PySem.W.Frag} {cl : Tb} {G : GS} {B H B' H' : Hp} {σ σ' : St} {A A' : Ev} {F F' : Nat → List Addr}
theorem Good.reB (g : Good K cl G B H σ A F) : Good K cl { G with B0 := B } B H σ A F := ⟨g.sub, g.len, g.at_, g.emp, g.nd, g.dis, g.nb, BEx.refl B, g.fr, g.tk, g.own, (fun a e => .inl e), g.keep, g.lkd, g.hx⟩
theorem BLe0.some_of (b : BLe0 B B') {a : Addr} (h : B a ≠ none) : B' a ≠ none := by
  cases q : B a with
  | none => exact absurd q h
  | some u =>
    rcases b.rd a u (.inl q) with r | ⟨o, r⟩ <;> rw [r] <;> exact fun e => nomatch e
theorem Good.unB (g0 : Good K cl G B H σ A F) (g : Good K cl { G with B0 := B } B' H' σ' A' F') : Good K cl G B' H' σ' A' F' := ⟨g.sub, g.len, g.at_, g.emp, g.nd, g.dis, g.nb, g0.le0.trans g.le0, g.fr, g.tk, g.own, (fun a e => (g.bnew a e).elim (g0.bnew a) fun h => .inr h), g.keep, g.lkd, g.hx⟩
end
inductive SOut where
  | nx (A : Ev) | bk (A : Ev) | ct (A : Ev) | rt (d : D) (A : Ev)
  | xc (c : Nat) (fs : List (Str × D)) (A : Ev)
def W0 (X : Cx) : WX := fun cls d σ H => ∀ u s', XE X (fun cls' d' σ' H' => cls' = cls ∧ d' = d ∧ σ' = σ ∧ H' = H) u s' → X.xe u s'
abbrev SM := Ev → Option SOut
section
variable (K : PySem.W.Frag) (cl : Tb) (G : GS) (Dn : Ends)
def EndsOk : SOut → Prop
  | .nx A => ∀ σ B H F, Good K cl G B H σ A F → Dn.nx σ H
  | .bk A => ∀ σ B H F, Good K cl G B H σ A F → Dn.bk σ H
  | .ct A => ∀ σ B H F, Good K cl G B H σ A F → Dn.ct σ H
  | .rt d A => ∀ σ B H F v fp, Good K cl G B H σ A F → Rep K cl B H d v fp → Own G B F fp → Dn.rt v H
  | .xc c fs A => ∀ σ B H F d, Good K cl G B H σ A F → FldsAt K cl B d fs → cl.W (.ref (cl c)) (some d) σ H
end
section
variable (X : Cx) (cl : Tb) (mu : List Nat)
def VS (st : Stmt) (m : SM) : Prop := ∃ t : TS, PS X st t ∧ ∀ (G : GS) σ A B H F, (∀ p ∈ G.kp, p.1 ∈ mu) → Good X.K cl G B H σ A F → ∀ out, m A = some out → ∀ Dn, EndsOk X.K cl G Dn out → t Dn σ H
def VSs (st : List Stmt) (m : SM) : Prop := ∃ t : TS, PSs X st t ∧ ∀ (G : GS) σ A B H F, (∀ p ∈ G.kp, p.1 ∈ mu) → Good X.K cl G B H σ A F → ∀ out, m A = some out → ∀ Dn, EndsOk X.K cl G Dn out → t Dn σ H
def VG (tg : Expr) (g : D → Ev → Option Ev) : Prop := ∃ t : TG, PG X tg t ∧ ∀ (G : GS) σ A B H F, (∀ p ∈ G.kp, p.1 ∈ mu) → Good X.K cl G B H σ A F → ∀ d v, Rep X.K cl B H d v [] → ∀ A', g d A = some A' → ∀ Q, (∀ σ' F', Good X.K cl G B H σ' A' F' → Q σ' H) → t v σ H Q
def VGs (tgs : List Expr) (g : List D → Ev → Option Ev) : Prop := ∃ t : TGs, PGs X tgs t ∧ ∀ (G : GS) σ A B H F, (∀ p ∈ G.kp, p.1 ∈ mu) → Good X.K cl G B H σ A F → ∀ ds vs, RepL X.K cl B H ds vs [] → ∀ A', g ds A = some A' → ∀ Q, (∀ σ' F', Good X.K cl G B H σ' A' F' → Q σ' H) → t vs σ H Q
end
section
variable {X : Cx} {cl : Tb} {mu : List Nat} {e c tg : Expr} {es : List Expr} {st : Stmt} {rest body orelse : List Stmt} {m m1 m2 : SM} {me : Ev → Option D} {mt : Ev → Option Bool} {pos : Pos} {g : D → Ev → Option Ev}
def sNx : SM := fun A => some (.nx A)
def sSeq (m1 m2 : SM) : SM := fun A => match m1 A with
  | some (.nx A') => m2 A'
  | r => r
theorem vss_nil : VSs X cl mu [] sNx := ⟨_, pss_nil, fun G σ A B H F hk g out e Dn ok => by cases e; exact ok σ B H F g⟩
theorem vss_cons (h1 : VS X cl mu st m1) (h2 : VSs X cl mu rest m2) : VSs X cl mu (st :: rest) (sSeq m1 m2) := by
  obtain ⟨t, p, r⟩ := h1
  obtain ⟨t2, p2, r2⟩ := h2
  refine ⟨_, pss_cons p p2, fun G σ A B H F hk g out e Dn ok => ?_⟩
  unfold sSeq at e
  split at e
  · rename_i A' h
    exact r G σ A B H F hk g _ h _ fun σ' B' H' F' g' => r2 G σ' A' B' H' F' hk g' out e Dn ok
  · rename_i h
    cases out with
    | nx A' => exact absurd e (h A')
    | bk A' => exact r G σ A B H F hk g _ e _ ok
    | ct A' => exact r G σ A B H F hk g _ e _ ok
    | rt d A' => exact r G σ A B H F hk g _ e _ ok
    | xc c fs A' => exact r G σ A B H F hk g _ e _ ok
theorem vss_one (h1 : VS X cl mu st m1) : VSs X cl mu [st] m1 := by
  obtain ⟨t, p, r⟩ := h1
  exact ⟨t, pss_one p, r⟩
def sKill (is : List Nat) (m : SM) : SM := fun A => match m A with
  | some (.nx A') => some (.nx (is.foldl (fun A i => A.set i none) A'))
  | r => r
theorem good_kills {K : PySem.W.Frag} {G : GS} {B H : Hp} {σ : St} : ∀ (is : List Nat) {A : Ev} {F : Nat → List Addr}, Good K cl G B H σ A F → ∃ F', Good K cl G B H σ (is.foldl (fun A i => A.set i none) A) F'
  | [], _, F, g => ⟨F, g⟩
  | i :: is, _, _, g => good_kills is g.kill
theorem vss_kill {sts : List Stmt} (is : List Nat) (h : VSs X cl mu sts m) : VSs X cl mu sts (sKill is m) := by
  obtain ⟨t, p, r⟩ := h
  refine ⟨t, p, fun G σ A B H F hk g out e Dn ok => ?_⟩
  unfold sKill at e
  split at e
  · rename_i A' h
    cases e
    exact r G σ A B H F hk g _ h _ fun σ' B' H' F' g' => let ⟨F2, g2⟩ := good_kills is g'; ok σ' B' H' F2 g2
  · exact r G σ A B H F hk g _ e _ ok
theorem vs_kill (is : List Nat) (h : VS X cl mu st m) : VS X cl mu st (sKill is m) := by
  obtain ⟨t, p, r⟩ := h
  refine ⟨t, p, fun G σ A B H F hk g out e Dn ok => ?_⟩
  unfold sKill at e
  split at e
  · rename_i A' h
    cases e
    exact r G σ A B H F hk g _ h _ fun σ' B' H' F' g' => let ⟨F2, g2⟩ := good_kills is g'; ok σ' B' H' F2 g2
  · exact r G σ A B H F hk g _ e _ ok
def killA (is : List Nat) (A : Ev) : Ev := is.foldl (fun A i => A.set i none) A
def sFrz (i : Nat) (m : SM) : SM := fun A => match A[i]? with
  | some (some d) => m (A.set i (some d.frz))
  | _ => none
theorem Good.frzAt {K : PySem.W.Frag} {G : GS} {B H : Hp} {σ : St} {A : Ev} {F : Nat → List Addr} {i : Nat} {d : D} (g : Good K cl G B H σ A F) (h : A[i]? = some (some d)) : ∃ B', Good K cl G B' H σ (A.set i (some d.frz)) (setF F i []) := by
  obtain ⟨v, e1, r⟩ := g.at_ i d h
  have hi : i < A.length := (List.getElem?_eq_some_iff.mp h).1
  have g2 : Good K cl G B H σ (A.set i none) (setF F i []) := g.kill
  have w : Own G B (setF F i []) (F i) := ⟨g.nd i, g.nb i, g.own i, fun j a z y => by
    by_cases hj : j = i
    · subst hj; rw [setF_same] at y; cases y
    · rw [setF_ne hj] at y; exact g.dis i j (Ne.symm hj) a z y⟩
  obtain ⟨g3, r3⟩ := g2.frz r w
  refine ⟨addB B H (F i), ?_⟩
  refine ⟨g3.sub, by rw [List.length_set]; exact g.len, fun j d' e => ?_, fun j e => ?_, g3.nd, g3.dis, g3.nb, g3.le0, g3.fr, g3.tk, g3.own, g3.bnew, g3.keep, g3.lkd, g3.hx⟩
  · by_cases hj : j = i
    · subst hj
      rw [List.getElem?_set_self hi] at e; cases e
      rw [setF_same]; exact ⟨v, e1, r3⟩
    · refine g3.at_ j d' ?_
      rw [List.getElem?_set_ne (Ne.symm hj)] at e ⊢; exact e
  · by_cases hj : j = i
    · subst hj; exact setF_same
    · refine g3.emp j fun d' q => e d' ?_
      rw [List.getElem?_set_ne (Ne.symm hj)] at q ⊢; exact q
theorem vs_frz (i : Nat) (h : VS X cl mu st m) : VS X cl mu st (sFrz i m) := by
  obtain ⟨t, p, r⟩ := h
  refine ⟨t, p, fun G σ A B H F hk g out e Dn ok => ?_⟩
  unfold sFrz at e
  split at e
  · rename_i d hd
    obtain ⟨B', g'⟩ := g.frzAt hd
    exact r G σ _ B' H _ hk g' out e Dn ok
  · cases e
def sExp (me : Ev → Option D) : SM := fun A => (me A).map fun _ => .nx A
def sAsg (i : Nat) (me : Ev → Option D) : SM := fun A => (me A).bind fun d => if i < A.length then some (.nx (A.set i (some d))) else none
theorem vs_asg {i : Nat} {x : Str} {pos' : Pos} (hN : X.N.Nodup) (hi : X.N[i]? = some x) (hx : Loc X.env.scope x) (hmu : i ∉ mu) (h : EvD X cl e me) (hs : swapsWith e (some (.Name x pos')) pos.line X.env = pure false := by rfl) (hf : X.fn x = true ∨ X.env.scope.names.lookup x = some .local := by first | exact .inl rfl | exact .inr rfl | assumption) :
    VS X cl mu (.Assign [.Name x pos'] e pos) (sAsg i me) := by
  obtain ⟨t, p, r⟩ := h
  refine ⟨_, ps_set hN hi hx p hs hf, fun G σ A B H F hk g out eo Dn ok => ?_⟩
  unfold sAsg at eo
  simp only [Option.bind_eq_some_iff] at eo
  obtain ⟨d, h1, h2⟩ := eo
  split at h2
  · rename_i hl
    cases h2
    exact r σ A B H g.renv d h1 _ fun v B' H' fp n rp f => ok _ B' H' _ ((g.news n).set hl (fun p hp e => hmu (e ▸ hk p hp)) rp (g.ownF f))
  · cases h2
def sRet (me : Ev → Option D) : SM := fun A => (me A).map fun d => .rt d A
theorem vs_ret (h : EvD X cl e me) : VS X cl mu (.Return (some e) pos) (sRet me) := by
  obtain ⟨t, p, r⟩ := h
  refine ⟨_, ps_ret p, fun G σ A B H F hk g out eo Dn ok => ?_⟩
  unfold sRet at eo
  simp only [Option.map_eq_some_iff] at eo
  obtain ⟨d, h1, rfl⟩ := eo
  exact r σ A B H g.renv d h1 _ fun v B' H' fp n rp f => ok σ B' H' F v fp (g.news n) rp (g.ownF f)
def sRetV (i : Nat) : SM := fun A => match A[i]? with
  | some (some d) => some (.rt d (A.set i none))
  | _ => none
theorem vs_retV {i : Nat} (p : PE X e (tVar i)) (hmu : i ∉ mu) : VS X cl mu (.Return (some e) pos) (sRetV i) := by
  refine ⟨_, ps_ret p, fun G σ A B H F hk g out eo Dn ok => ?_⟩
  unfold sRetV at eo
  split at eo
  · rename_i d hd
    cases eo
    obtain ⟨v, e1, r⟩ := g.at_ i d hd
    refine ⟨v, e1, ok σ B H _ v (F i) g.kill r ⟨g.nd i, g.nb i, g.own i, fun j a z y => ?_⟩⟩
    by_cases hj : j = i
    · subst hj; rw [setF_same] at y; cases y
    · rw [setF_ne hj] at y; exact g.dis i j (Ne.symm hj) a z y
  · cases eo
def sIf (mt : Ev → Option Bool) (m1 m2 : SM) : SM := fun A => (mt A).bind fun b => if b = true then m1 A else m2 A
theorem vs_if (hc : EvT X cl c mt) (h1 : VSs X cl mu body m1) (h2 : VSs X cl mu orelse m2) : VS X cl mu (.If c body orelse pos) (sIf mt m1 m2) := by
  obtain ⟨t, p, r⟩ := hc
  obtain ⟨t1, p1, r1⟩ := h1
  obtain ⟨t2, p2, r2⟩ := h2
  refine ⟨_, ps_if p p1 p2, fun G σ A B H F hk g out eo Dn ok => ?_⟩
  unfold sIf at eo
  simp only [Option.bind_eq_some_iff] at eo
  obtain ⟨b, h1, h2⟩ := eo
  refine r σ A B H g.renv b h1 _ fun B' H' n => ?_
  cases b with
  | true => rw [if_pos rfl] at h2 ⊢; exact r1 G σ A B' H' F hk (g.news n) out h2 Dn ok
  | false => rw [if_neg Bool.false_ne_true] at h2 ⊢; exact r2 G σ A B' H' F hk (g.news n) out h2 Dn ok
def tgN (i : Nat) : D → Ev → Option Ev := fun d A => if i < A.length then some (A.set i (some d)) else none
theorem vg_name {i : Nat} {x : Str} (hN : X.N.Nodup) (hi : X.N[i]? = some x) (hx : Loc X.env.scope x) (hmu : i ∉ mu) (hf : X.fn x = true ∨ X.env.scope.names.lookup x = some .local := by first | exact .inl rfl | exact .inr rfl | assumption) : VG X cl mu (.Name x pos) (tgN i) := by
  refine ⟨_, pg_name hN hi hx hf, fun G σ A B H F hk g d v r A' e Q q => ?_⟩
  unfold tgN at e
  split at e
  · rename_i hl
    cases e
    exact q _ _ (g.set hl (fun p hp e => hmu (e ▸ hk p hp)) r Own.nil)
  · cases e
def tgNil : List D → Ev → Option Ev := fun ds A => match ds with
  | [] => some A
  | _ => none
def tgCons (g : D → Ev → Option Ev) (gs : List D → Ev → Option Ev) : List D → Ev → Option Ev := fun ds A => match ds with
  | d :: ds => (g d A).bind fun A' => gs ds A'
  | [] => none
variable {gs : List D → Ev → Option Ev}
theorem vgs_nil : VGs X cl mu [] tgNil := by
  refine ⟨_, pgs_nil, fun G σ A B H F hk g ds vs r A' e Q q => ?_⟩
  cases ds with
  | nil => cases e; simp only [RepL] at r; exact ⟨r.1, q σ F g⟩
  | cons d ds => cases e
theorem vgs_cons (h : VG X cl mu e g) (hr : VGs X cl mu es gs) (hs : (assignEach (e :: es) X.env).map (·.2) = assign e X.env :: (assignEach es X.env).map (·.2) := by rfl) : VGs X cl mu (e :: es) (tgCons g gs) := by
  obtain ⟨t, p, r⟩ := h
  obtain ⟨t2, p2, r2⟩ := hr
  refine ⟨_, pgs_cons p p2 hs, fun G σ A B H F hk g0 ds vs rp A' e Q q => ?_⟩
  cases ds with
  | nil => cases e
  | cons d ds =>
    simp only [tgCons, Option.bind_eq_some_iff] at e
    obtain ⟨A1, h1, h2⟩ := e
    simp only [RepL] at rp
    obtain ⟨v, vr, f1, f2, e1, e2, q1, q2⟩ := rp
    have z1 : f1 = [] := (List.append_eq_nil_iff.mp e2.symm).1
    have z2 : f2 = [] := (List.append_eq_nil_iff.mp e2.symm).2
    subst z1 z2
    exact ⟨v, vr, e1, r G σ A B H F hk g0 d v q1 A1 h1 _ fun σ' F' g1 => r2 G σ' A1 B H F' hk g1 ds vr q2 A' h2 Q q⟩
def tgTup (n : Nat) (gs : List D → Ev → Option Ev) : D → Ev → Option Ev := fun d A => match d with
  | .tup ds => if ds.length = n then gs ds A else none
  | _ => none
theorem vg_tup {k n : Nat} (hc : X.calm = true) (h : VGs X cl mu es gs) (hn : (assignEach es X.env).length = n := by rfl) (hst : (assignEach es X.env).findIdx? (·.1) = none := by rfl) : VG X cl mu (.Tuple es k pos) (tgTup n gs) := by
  obtain ⟨t, p, r⟩ := h
  refine ⟨_, pg_tup hc p hn hst, fun G σ A B H F hk g0 d v rp A' e Q q => ?_⟩
  cases d <;> simp only [tgTup] at e <;> try (cases e; done)
  rename_i ds
  split at e
  · rename_i hl
    obtain ⟨a, vs, e1, q1, q2⟩ := rp.tup_view g0.sub
    exact ⟨a, vs, e1, .of q1, by rw [← q2.length]; exact hl, r G σ A B H F hk g0 ds vs q2 A' e Q q⟩
  · cases e
def sAsgG (g : D → Ev → Option Ev) (me : Ev → Option D) : SM := fun A => (me A).bind fun d => (g d.frz A).map .nx
theorem vs_asgG (h : EvD X cl e me) (hg : VG X cl mu tg g) (hs : swapsWithSole [tg] e pos.line X.env = pure false := by rfl) (hw : swappedStores [tg] e X.env = pure none := by rfl) (h1 : (assignEach [tg] X.env).map (·.2) = [assign tg X.env] := by rfl) :
    VS X cl mu (.Assign [tg] e pos) (sAsgG g me) := by
  obtain ⟨t, p, r⟩ := h
  obtain ⟨t2, p2, r2⟩ := hg
  refine ⟨_, ps_asg p p2 hs hw h1, fun G σ A B H F hk g0 out eo Dn ok => ?_⟩
  unfold sAsgG at eo
  simp only [Option.bind_eq_some_iff, Option.map_eq_some_iff] at eo
  obtain ⟨d, h1, A1, h2, rfl⟩ := eo
  refine r σ A B H g0.renv d h1 _ fun v B' H' fp n rp f => ?_
  obtain ⟨g2, r3⟩ := (g0.news n).frz rp (g0.ownF f)
  exact r2 G σ A _ H' F hk g2 _ v r3 A1 h2 _ fun σ' F' g3 => ok σ' _ H' F' g3
structure ItOk (K : PySem.W.Frag) (cl : Tb) (J : It) (ds : List D) (B : Hp) : Prop where
  go : ∀ B' H, BLe0 B B' → BLe B' H → ∀ (i : Nat) (d : D), ds[i]? = some d → J.go i H ∧ ∀ x H', J.yld i H x H' → ∃ B'', New B' H B'' H' ∧ Rep K cl B'' H' d x []
  stop : ∀ B' H, BLe0 B B' → BLe B' H → ∀ i, ds.length ≤ i → J.stop i H
def VI_ (X : Cx) (cl : Tb) (tg iter : Expr) (m : Ev → Option (List D)) : Prop := ∃ w : TI, PI X tg iter w ∧ ∀ σ A B H, REnv X.K cl B H σ A → ∀ ds, m A = some ds → ∀ R : It → Hp → Prop, (∀ J B' H', New B H B' H' → ItOk X.K cl J ds B' → R J H') → w σ H R
def forL (bd : D → Ev → Option SOut) : List D → Ev → Option SOut
  | [], A => some (.nx A)
  | d :: ds, A => match bd d A with
    | some (.nx A') => forL bd ds A'
    | some (.ct A') => forL bd ds A'
    | some (.bk A') => some (.nx A')
    | r => r
def sFor (mi : Ev → Option (List D)) (g : D → Ev → Option Ev) (mb : SM) : SM := fun A => (mi A).bind fun ds => forL (fun d A => (g d A).bind mb) ds A
theorem vs_for {iter : Expr} {mi : Ev → Option (List D)} {mb : SM} (hp : PassesOwn (model X.prog X.w) X.A X.env X.xe) (hc : X.calm = true) (hi : VI_ X cl tg iter mi) (hg : VG X cl mu tg g) (hb : VSs X cl mu body mb)
    (hs : ∀ x, foldedSetIterable iter X.env x = pure x := by intro _; rfl) : VS X cl mu (.For tg iter body [] pos) (sFor mi g mb) := by
  obtain ⟨w, pw, rw_⟩ := hi
  obtain ⟨t2, p2, r2⟩ := hg
  obtain ⟨t3, p3, r3⟩ := hb
  refine ⟨_, ps_for hp hc pw p2 p3 hs, fun G σ A B H F hk g0 out eo Dn ok => ?_⟩
  unfold sFor at eo
  simp only [Option.bind_eq_some_iff] at eo
  obtain ⟨ds, h1, h2⟩ := eo
  refine rw_ σ A B H g0.renv ds h1 _ fun J B0 H0 n0 it => ?_
  have g1 := g0.news n0
  refine ⟨fun i m σ' H' => m = ds.length - i ∧ i ≤ ds.length ∧ ∃ A' B' F', Good X.K cl { G with B0 := B0 } B' H' σ' A' F' ∧ forL (fun d A => (g d A).bind mb) (ds.drop i) A' = some out, ⟨ds.length, by simp, Nat.zero_le _, A, B0, F, g1.reB, h2⟩, ?_⟩
  rintro i m σ' H' ⟨rfl, hi, A', B', F', g2, run⟩
  by_cases hlt : i < ds.length
  · have hd : ds[i]? = some ds[i] := by simp [hlt]
    obtain ⟨go, yl⟩ := it.go B' H' g2.le0.le g2.sub i _ hd
    rw [List.drop_eq_getElem_cons hlt] at run
    refine .inr ⟨go, fun σ2 H2 => ∃ A2 B2 F2, Good X.K cl { G with B0 := B0 } B2 H2 σ2 A2 F2 ∧ forL (fun d A => (g d A).bind mb) (ds.drop (i + 1)) A2 = some out, ?_, ?_⟩
    · rintro σ2 H2 ⟨A2, B2, F2, g3, run2⟩
      exact ⟨ds.length - (i + 1), by omega, rfl, hlt, A2, B2, F2, g3, run2⟩
    · intro x H1 hy
      obtain ⟨B1, n1, rp⟩ := yl x H1 hy
      have g3 := g2.news n1
      rw [forL] at run
      cases hbd : (g ds[i] A').bind mb with
      | none => rw [hbd] at run; cases run
      | some o =>
        rw [hbd] at run
        simp only [Option.bind_eq_some_iff] at hbd
        obtain ⟨A1, k1, k2⟩ := hbd
        refine r2 { G with B0 := B0 } σ' A' B1 H1 F' hk g3 _ x rp A1 k1 _ fun σ2 F2 g4 => ?_
        refine r3 { G with B0 := B0 } σ2 A1 B1 H1 F2 hk g4 o k2 _ ?_
        cases o with
        | nx A2 => exact fun σ3 B3 H3 F3 g5 => ⟨A2, B3, F3, g5, run⟩
        | ct A2 => exact fun σ3 B3 H3 F3 g5 => ⟨A2, B3, F3, g5, run⟩
        | bk A2 => cases run; exact fun σ3 B3 H3 F3 g5 => ok σ3 B3 H3 F3 (g1.unB g5)
        | rt d A2 => cases run; exact fun σ3 B3 H3 F3 v fp g5 rp w => ok σ3 B3 H3 F3 v fp (g1.unB g5) rp ⟨w.nd, w.nb, w.own, w.dis⟩
        | xc c fs A2 => cases run; exact fun σ3 B3 H3 F3 d g5 fa => ok σ3 B3 H3 F3 d (g1.unB g5) fa
  · have e : i = ds.length := by omega
    subst e
    rw [List.drop_length] at run
    cases run
    exact .inl ⟨it.stop B' H' g2.le0.le g2.sub _ (Nat.le_refl _), ok σ' B' H' F' (g1.unB g2)⟩
end
end VI
set_option Elab.async false
set_option linter.all false
set_option maxRecDepth 100000
set_option autoImplicit false
namespace VI
open PySem L2
section
variable {X : Cx} {cl : Tb} {mu : List Nat} {e c tg : Expr} {es : List Expr} {me : Ev → Option D} {mt : Ev → Option Bool} {pos p : Pos} {K : PySem.W.Frag} {B H B' H' : Hp}
theorem PI.or {iter : Expr} {w u : TI} (h : PI X tg iter w) (h' : PI X tg iter u) : PI X tg iter (fun σ H R => w σ H R ∨ u σ H R) := ⟨fun pins s σ H R I q => q.elim (h.run pins s σ H R I) (h'.run pins s σ H R I)⟩
theorem PS.or {st : Stmt} {t u : TS} (h : PS X st t) (h' : PS X st u) : PS X st (fun D σ H => t D σ H ∨ u D σ H) := ⟨fun pins s σ H D I q => q.elim (h.run pins s σ H D I) (h'.run pins s σ H D I)⟩
theorem it_list {a : Addr} {vs : List V} {xs : List D} (h : B a = some (.lst vs)) (r : RepL K cl B H xs vs []) : ItOk K cl (Itl K a) xs B where
  go := fun B' H1 le s i d hd => by
    obtain ⟨v, f, h1, h2, h3⟩ := r.get hd
    have hf : f = [] := List.eq_nil_iff_forall_not_mem.mpr fun a z => by have := h3 a z; cases this
    subst hf
    have hq : SqL K H1 a vs := .of (s.lst _ _ (le.lst _ _ h))
    refine ⟨⟨vs, v, hq, h1⟩, fun x H' y => ?_⟩
    obtain ⟨e, y⟩ := y
    subst e
    have := y vs hq
    rw [h1] at this
    cases this
    exact ⟨B', New.refl s, h2.mono le fun _ z => nomatch z⟩
  stop := fun B' H1 le s i hi => ⟨vs, .of (s.lst _ _ (le.lst _ _ h)), by rw [← r.length]; exact hi⟩
theorem it_tup {a : Addr} {vs : List V} {xs : List D} (h : ∀ B' H1, BLe0 B B' → BLe B' H1 → SqT K H1 a vs) (r : RepL K cl B H xs vs []) : ItOk K cl (Itt K a) xs B where
  go := fun B' H1 le s i d hd => by
    obtain ⟨v, f, h1, h2, h3⟩ := r.get hd
    have hf : f = [] := List.eq_nil_iff_forall_not_mem.mpr fun a z => by have := h3 a z; cases this
    subst hf
    have hq : SqT K H1 a vs := h B' H1 le s
    refine ⟨⟨vs, v, hq, h1⟩, fun x H' y => ?_⟩
    obtain ⟨e, y⟩ := y
    subst e
    have := y vs hq
    rw [h1] at this
    cases this
    exact ⟨B', New.refl s, h2.mono le fun _ z => nomatch z⟩
  stop := fun B' H1 le s i hi => ⟨vs, h B' H1 le s, by rw [← r.length]; exact hi⟩
def items : D → Option (List D)
  | .lst _ xs => some xs
  | .tup xs => some xs
  | .ktup xs => some xs
  | _ => none
def mItems (m : Ev → Option D) : Ev → Option (List D) := fun A => (m A).bind fun d => items d.frz
theorem New.frz {cl : Nat → Addr} {d : D} {v : V} {fp : List Addr} (n : New B H B' H') (r : Rep K cl B' H' d v fp) (f : Fresh H B' fp) : New B H (addB B' H' fp) H' ∧ Rep K cl (addB B' H' fp) H' d.frz v [] := by
  have le := addB_le (H := H') f.nb
  refine ⟨⟨n.ex, n.le.trans le, addB_sub n.sub r.stand', fun a e => ?_⟩, r.frz le.le fun a z => addB_in z⟩
  by_cases h : a ∈ fp
  · exact .inr (.inl (f.nh a h))
  · rw [addB_out h] at e; exact n.nb a e
theorem vi_seq (h : EvD X cl e me) : VI_ X cl tg e (mItems me) := by
  obtain ⟨t, p, r⟩ := h
  refine ⟨_, PI.or (pi_list p) (pi_tup p), fun σ A B H R0 ds hd R q => ?_⟩
  unfold mItems at hd
  simp only [Option.bind_eq_some_iff] at hd
  obtain ⟨d, h1, h2⟩ := hd
  have go : ∀ {P : V → Hp → Prop}, (∀ v B' H', New B H B' H' → Rep X.K cl B' H' d.frz v [] → P v H') → t σ H P := fun {P} k => r σ A B H R0 d h1 P fun v B' H' fp n rp f => by
    obtain ⟨n2, r2⟩ := n.frz rp f
    exact k v _ H' n2 r2
  cases hz : d.frz <;> rw [hz] at h2 <;> simp only [items] at h2 <;> try (cases h2; done)
  case lst m xs =>
    cases h2
    refine .inl (go fun v B' H' n rp => ?_)
    have hm : m = false := by cases d <;> simp only [D.frz] at hz <;> cases hz <;> rfl
    subst hm
    rw [hz] at rp
    simp only [Rep] at rp
    obtain ⟨a, vs, e1, q1, q2, _⟩ := rp
    exact ⟨a, e1, ⟨vs, .of (n.sub.lst _ _ q1)⟩, q _ B' H' n (it_list q1 q2)⟩
  case tup xs =>
    cases h2
    refine .inr (go fun v B' H' n rp => ?_)
    rw [hz] at rp
    simp only [Rep] at rp
    obtain ⟨a, vs, e1, q1, q2⟩ := rp
    exact ⟨a, e1, ⟨vs, .of (n.sub.tup _ _ q1)⟩, q _ B' H' n (it_tup (fun B2 H2 le s => .of (s.tup _ _ (le.tup _ _ q1))) q2)⟩
  case ktup xs =>
    cases h2
    refine .inr (go fun v B' H' n rp => ?_)
    rw [hz] at rp
    simp only [Rep] at rp
    obtain ⟨a, vs, e1, q1, q2, _⟩ := rp
    exact ⟨a, e1, ⟨vs, n.sub.sqT q1⟩, q _ B' H' n (it_tup (fun B2 H2 le s => s.sqT (le.sqT q1)) q2)⟩
theorem it_range (lo : Int) (n : Nat) : ItOk K cl (Itr lo n) ((List.range n).map fun (i : Nat) => D.int (lo + i)) B where
  go := fun B' H1 le s i d hd => by
    rw [List.getElem?_map] at hd
    by_cases hi : i < n
    · rw [List.getElem?_range hi] at hd
      cases hd
      refine ⟨hi, fun x H' y => ?_⟩
      obtain ⟨e, y⟩ := y
      subst e y
      exact ⟨B', New.refl s, rep_int⟩
    · rw [List.getElem?_eq_none (by simpa using hi)] at hd; cases hd
  stop := fun B' H1 le s i hi => by show n ≤ i; simpa using hi
def rangeD1 : List D → Option (List D)
  | [.int j] => if j.natAbs ≤ 1000000 then some ((List.range j.toNat).map fun (i : Nat) => D.int (0 + i)) else none
  | _ => none
def mRng1 (ms : Ev → Option (List D)) : Ev → Option (List D) := fun A => (ms A).bind rangeD1
variable {a b : Expr} {ms : Ev → Option (List D)}
theorem vi_range1 (hg : Gl X "range") (hm : X.mg "range" = none) (ha : EvA X cl [a] ms) (hs : starEach [a] X.env = [(false, eval a X.env)] := by rfl) : VI_ X cl tg (.Call (.Name "range" p) [a] [] pos) (mRng1 ms) := by
  obtain ⟨t, pa, r⟩ := ha
  refine ⟨_, pi_range1 hg hm pa hs, fun σ A B H R0 ds hd R q => ?_⟩
  simp only [mRng1, Option.bind_eq_some_iff] at hd
  obtain ⟨xs, h1, h2⟩ := hd
  refine r σ A B H R0 xs h1 _ fun vs B' H' fp n rp => ?_
  unfold rangeD1 at h2
  split at h2
  · split at h2
    · rename_i hb
      cases h2
      obtain ⟨v, e0, r1⟩ := repL_one rp
      rw [rep_int_iff] at r1
      exact ⟨_, by rw [e0, r1.1], by omega, by omega, q _ B' H' n (it_range 0 _)⟩
    · cases h2
  · cases h2
def signs (x : Str) : List D := x.cps.toList.map fun c => D.str ⟨#[c]⟩
theorem it_str (x : Str) : ItOk K cl (Its x) (signs x) B where
  go := fun B' H1 le s i d hd => by
    unfold signs at hd
    rw [List.getElem?_map] at hd
    cases hc : x.cps.toList[i]? with
    | none => rw [hc] at hd; cases hd
    | some c =>
      rw [hc] at hd
      cases hd
      have hlt : i < x.cps.size := by
        have := (List.getElem?_eq_some_iff.mp hc).1
        simpa using this
      refine ⟨hlt, fun y H' z => ?_⟩
      obtain ⟨e, c', e1, e2⟩ := z
      subst e e2
      have : c' = c := by
        rw [← Array.getElem?_toList, hc] at e1
        exact (Option.some.inj e1).symm
      subst this
      exact ⟨B', New.refl s, rep_str⟩
  stop := fun B' H1 le s i hi => by show x.cps.size ≤ i; simpa [signs] using hi
def mSigns (m : Ev → Option D) : Ev → Option (List D) := fun A => match m A with
  | some (.str x) => some (signs x)
  | _ => none
theorem vi_str (h : EvV X cl e me) : VI_ X cl tg e (mSigns me) := by
  obtain ⟨t, p, r⟩ := h
  refine ⟨_, pi_str p, fun σ A B H R0 ds hd R q => ?_⟩
  unfold mSigns at hd
  split at hd
  · rename_i x hx
    cases hd
    refine r σ A B H R0 _ hx _ fun v B' H' fp n rp => ?_
    rw [rep_str_iff] at rp
    exact ⟨x, rp.1, q _ B' H' n (it_str x)⟩
  · cases hd
end
end VI
set_option Elab.async false
set_option linter.all false
set_option maxRecDepth 100000
set_option autoImplicit false
namespace VI
open PySem L2
section
variable {K : PySem.W.Frag} {cl : Tb} {G : GS} {B H B' H' : Hp} {σ σ' : St} {A A' : Ev} {F F' : Nat → List Addr} {d : D} {ds : List D} {v : V} {vs : List V} {fp : List Addr}
theorem addB_leS (s : BLe B H) (st : ∀ a ∈ fp, ∃ o, H a = some o ∧ ownable o = true) : BEx B (addB B H fp) := fun a u e => by
  by_cases h : a ∈ fp
  · rw [addB_in h]
    obtain ⟨o, q, w⟩ := st a h
    rcases s.rd a u (.inl e) with r | ⟨x, r⟩
    · exact r
    · rw [q] at r; cases r; cases w
  · rw [addB_out h]; exact e
theorem RepL.freeze {cl : Nat → Addr} (s : BLe B H) (r : RepL K cl B H ds vs fp) : BLe (addB B H fp) H ∧ BEx B (addB B H fp) ∧ RepL K cl (addB B H fp) H (D.frzL ds) vs [] := by
  have le := addB_leS s r.stand'
  exact ⟨addB_sub s r.stand', le, r.frz le.le fun a z => addB_in z⟩
theorem Rep.freeze {cl : Nat → Addr} (s : BLe B H) (r : Rep K cl B H d v fp) : BLe (addB B H fp) H ∧ BEx B (addB B H fp) ∧ Rep K cl (addB B H fp) H d.frz v [] := by
  have le := addB_leS s r.stand'
  exact ⟨addB_sub s r.stand', le, r.frz le.le fun a z => addB_in z⟩
mutual
theorem Rep.thin {cl : Nat → Addr} (hx : ∀ a vs, B a = some (.tup vs) → B' a = some (.tup vs)) : ∀ {d : D} {v : V} {fp : List Addr}, d.clean = true → Rep K cl B H d v fp → Rep K cl B' H d v fp
  | .non, _, _, _, h => by simpa only [Rep] using h
  | .bl _, _, _, _, h => by simpa only [Rep] using h
  | .int _, _, _, _, h => by simpa only [Rep] using h
  | .str _, _, _, _, h => by simpa only [Rep] using h
  | .tup ds, _, _, k, h => by
    simp only [Rep] at h ⊢
    obtain ⟨a, vs, e, q, r⟩ := h
    exact ⟨a, vs, e, hx a vs q, RepL.thin hx (by simpa only [D.clean] using k) r⟩
  | .scr _, _, _, k, _ => by simp [D.clean] at k
  | .ktup _, _, _, k, _ => by simp [D.clean] at k
  | .exc _ _ _, _, _, k, _ => by simp [D.clean] at k
  | .hol _, _, _, _, h => by simpa only [Rep] using h
  | .lsa _ ds, _, _, k, h => by
    simp only [Rep] at h ⊢
    obtain ⟨a, vs, fq, e, q, r, e2, e3⟩ := h
    exact ⟨a, vs, fq, e, q, RepL.thin hx (by simpa [D.clean] using k) r, e2, e3⟩
  | .lst false ds, _, _, k, _ => by simp [D.clean] at k
  | .lst true ds, _, _, k, h => by
    simp only [Rep] at h ⊢
    obtain ⟨a, vs, fq, e, q, r, e2⟩ := h
    exact ⟨a, vs, fq, e, q, RepL.thin hx (by simpa [D.clean] using k) r, e2⟩
  | .dct false _ ds, _, _, k, _ => by simp [D.clean] at k
  | .dct true ks ds, _, _, k, h => by
    simp only [Rep] at h ⊢
    obtain ⟨a, vs, fq, e, q, l, r, e2⟩ := h
    exact ⟨a, vs, fq, e, q, l, RepL.thin hx (by simpa [D.clean] using k) r, e2⟩
  | .dtt false _ ds, _, _, k, _ => by simp [D.clean] at k
  | .dtt true ks ds, _, _, k, h => by
    simp only [Rep] at h ⊢
    obtain ⟨a, vs, fq, e, q, l, r, e2⟩ := h
    exact ⟨a, vs, fq, e, q, l, RepL.thin hx (by simpa [D.clean] using k) r, e2⟩
  | .obj false _ _ ds, _, _, k, _ => by simp [D.clean] at k
  | .obj true c fs ds, _, _, k, h => by
    simp only [Rep] at h ⊢
    obtain ⟨a, dx, vs, fq, e, q, l, r, e2⟩ := h
    exact ⟨a, dx, vs, fq, e, q, l, RepL.thin hx (by simpa [D.clean] using k) r, e2⟩
theorem RepL.thin {cl : Nat → Addr} (hx : ∀ a vs, B a = some (.tup vs) → B' a = some (.tup vs)) : ∀ {ds : List D} {vs : List V} {fp : List Addr}, D.cleanL ds = true → RepL K cl B H ds vs fp → RepL K cl B' H ds vs fp
  | [], _, _, _, h => by simpa only [RepL] using h
  | d :: ds, _, _, k, h => by
    simp only [D.cleanL, Bool.and_eq_true] at k
    simp only [RepL] at h ⊢
    obtain ⟨v, vr, f1, f2, e, e2, r, rr⟩ := h
    exact ⟨v, vr, f1, f2, e, e2, Rep.thin hx k.1 r, RepL.thin hx k.2 rr⟩
end
theorem New.thaw {cl : Nat → Addr} {fq : List Addr} (s : BLe B H) (st : ∀ a ∈ fp, ∃ o, H a = some o ∧ ownable o = true) (n : New (addB B H fp) H B' H') (r : Rep K cl B' H' d v fq) (f : Fresh H B' fq) (c : fp = [] ∨ d.clean = true) :
    ∃ B2, New B H B2 H' ∧ Rep K cl B2 H' d v fq ∧ Fresh H B2 fq := by
  classical
  have le := addB_leS s st
  by_cases hf : fp = []
  · subst hf
    have e : addB B H [] = B := by funext a; exact addB_out (fun z => nomatch z)
    rw [e] at n
    exact ⟨B', n, r, f⟩
  · have hc : d.clean = true := c.resolve_left hf
    refine ⟨fun a => if a ∈ fp ∧ B a = none then none else B' a, ⟨n.ex, fun a u e => ?_, ?_, fun a e => ?_⟩, ?_, ⟨f.nd, f.nh, fun a z => ?_⟩⟩
    · show (if a ∈ fp ∧ B a = none then none else B' a) = some u
      rw [if_neg (by rw [e]; rintro ⟨_, h⟩; cases h)]
      exact n.le a u (le a u e)
    · refine BLe0.trans (BLe.of_same fun a u e => ?_) n.sub
      show B' a = some u
      have e : (if a ∈ fp ∧ B a = none then none else B' a) = some u := e
      split at e
      · cases e
      · exact e
    · have e : (if a ∈ fp ∧ B a = none then none else B' a) ≠ none := e
      split at e
      · exact absurd rfl e
      · rename_i hn
        rcases n.nb a e with h | h
        · by_cases ha : a ∈ fp
          · exact .inl fun q => hn ⟨ha, q⟩
          · rw [addB_out ha] at h; exact .inl h
        · exact .inr h
    · refine r.thin (fun a vs e => ?_) hc
      show (if a ∈ fp ∧ B a = none then none else B' a) = some (.tup vs)
      rw [if_neg]
      · exact e
      · rintro ⟨ha, _⟩
        obtain ⟨o, q, w⟩ := st a ha
        have h1 := n.le a o (by rw [addB_in ha]; exact q)
        rw [e] at h1
        cases h1
        cases w
    · show (if a ∈ fp ∧ B a = none then none else B' a) = none
      split
      · rfl
      · exact f.nb a z
end
def runF (n N : Nat) (m : SM) (ds : List D) : Option (D × Ev) :=
  if ds.length = n then
    match m (ds.map some ++ List.replicate (N - n) none) with
    | some (.rt d A) => some (d, A)
    | some (.nx A) => some (.non, A)
    | _ => none
  else none
def gs0 (H B : Hp) (S : List Addr) (mu : List Nat) (vs : List V) : GS := ⟨H, B, S, mu.filterMap fun i => vs[i]?.map fun v => (i, v), []⟩
def SpF (K : PySem.W.Frag) (cl : Nat → Addr) (mu : List Nat) (n : Nat) (f : List D → Option (D × Ev)) : Sp := fun vs H Q _ =>
  vs.length = n ∧ ∃ B ds F S, Good K (tb cl) (gs0 H B S mu vs) B H (vs.map some) (ds.map some) F ∧ ∃ d A', f ds = some (d, A') ∧
    ∀ σ' B' H' F' v fp, Good K (tb cl) (gs0 H B S mu vs) B' H' σ' A' F' → Rep K (tb cl) B' H' d v fp → Own (gs0 H B S mu vs) B' F' fp → Q v H'
section
variable {P : Program} {w : World} {K : PySem.W.Frag} {mg : Str → Option Value} {base : Heap} {x qual : Str} {params : Arguments} {body : List Stmt} {scope : Scope} {dvs : List V} {kws : List (Str × V)} {f : Addr} {fd : FuncData} {cl : Nat → Addr} {tbl : Tb} {G : GS} {B H : Hp} {σ : St} {A : Ev} {F : Nat → List Addr}
theorem Good.more (g : Good K tbl G B H σ A F) (m : Nat) : Good K tbl G B H (σ ++ List.replicate m none) (A ++ List.replicate m none) F where
  sub := g.sub
  len := by simp [g.len]
  at_ := fun i d e => by
    by_cases h : i < A.length
    · rw [List.getElem?_append_left h] at e
      rw [List.getElem?_append_left (by rw [g.len]; exact h)]
      exact g.at_ i d e
    · rw [List.getElem?_append_right (by omega), List.getElem?_replicate] at e
      split at e <;> cases e
  emp := fun i h => g.emp i fun d e => by
    have hl := (List.getElem?_eq_some_iff.mp e).1
    exact h d (by rw [List.getElem?_append_left hl]; exact e)
  nd := g.nd
  dis := g.dis
  nb := g.nb
  le0 := g.le0
  fr := g.fr
  tk := g.tk
  own := g.own
  bnew := g.bnew
  keep := fun p hp => by
    have e := g.keep p hp
    have hl := (List.getElem?_eq_some_iff.mp e).1
    rw [List.getElem?_append_left hl]; exact e
  lkd := g.lkd
  hx := g.hx
theorem kp_mu {H B : Hp} {S : List Addr} {mu : List Nat} {vs : List V} : ∀ p ∈ (gs0 H B S mu vs).kp, p.1 ∈ mu := fun p hp => by
  simp only [gs0, List.mem_filterMap, Option.map_eq_some_iff] at hp
  obtain ⟨i, hi, v, _, rfl⟩ := hp
  exact hi
theorem fn_run {X : Cx} {mu : List Nat} {m : SM} {N ps : List Str} (h : VSs X (tb cl) mu body m) (hK : X.K = K) {vs : List V} {Q : VK} {E : XK} (h2 : SpF K cl mu ps.length (runF ps.length N.length m) vs H Q E) :
    ∃ t, PSs X body t ∧ t { nx := fun _ H' => Q .non H', rt := Q } (L2.start N vs) H := by
  obtain ⟨t, p, r⟩ := h
  obtain ⟨hl, B, ds, F, S, g, d, A', e, q⟩ := h2
  subst hK
  refine ⟨t, p, ?_⟩
  unfold runF at e
  split at e
  · rename_i hd
    have g1 := g.more (N.length - ps.length)
    have es : L2.start N vs = vs.map some ++ List.replicate (N.length - ps.length) none := by unfold L2.start; rw [hl]
    rw [es]
    split at e
    · rename_i d' A1 hm
      cases e
      exact r _ _ _ B H F kp_mu g1 _ hm _ fun σ' B' H' F' v fp g2 rp w => q σ' B' H' F' v fp g2 rp w
    · rename_i A1 hm
      cases e
      exact r _ _ _ B H F kp_mu g1 _ hm _ fun σ' B' H' F' g2 => q σ' B' H' F' .non [] g2 rep_non Own.nil
    · cases e
  · cases e
theorem fn_ok {mu : List Nat} {m : SM} {N ps : List Str} {k : Nat} (Fd : FunD K x qual params body scope dvs kws f fd) (S : FnScope N ps scope)
    (hb : ∀ (cdv : Value) (A : Around) (outer : List Env) (s : Shared) (H : Hp) (E : XK), Room k (A.deeper (PyProof.Rows.envOfC qual scope s.heap.objs.size f cdv)) → VSs (cxOf CX0 P w K mg base N qual scope f cdv A outer s H E).nox (tb cl) mu body m) :
    FnOk P w K mg base CX0 (k + 1) f fd ps (SpF K cl mu ps.length (runF ps.length N.length m)) := by
  refine Fd.ok S (fun vs H Q E h => h.1) fun cdv A outer s H vs Q E hr h => ?_
  obtain ⟨t, p, q⟩ := fn_run (N := N) (hb cdv A outer s H E hr) rfl h
  exact ⟨t, p.nox, q⟩
end
section
variable {K : PySem.W.Frag} {cl : Nat → Addr} {B H B' H' : Hp} {ds : List D} {vs : List V} {fp : List Addr} {f : List D → Option (D × Ev)} {n : Nat} {E : XK}
theorem RepL.at (r : RepL K cl B H ds vs []) {i : Nat} {d : D} (e : ds[i]? = some d) : ∃ v, vs[i]? = some v ∧ Rep K cl B H d v [] := by
  obtain ⟨v, f, h1, h2, h3⟩ := r.get e
  have hf : f = [] := List.eq_nil_iff_forall_not_mem.mpr fun a z => by have := h3 a z; cases this
  subst hf
  exact ⟨v, h1, h2⟩
theorem good0 (s : BLe B H) (r : RepL K cl B H ds vs []) (t : TabC cl H) : Good K (tb cl) (gs0 H B [] [] vs) B H (vs.map some) (ds.map some) (fun _ => []) where
  sub := s
  len := by simp [r.length]
  at_ := fun i d e => by
    rw [List.getElem?_map] at e
    cases h : ds[i]? with
    | none => rw [h] at e; cases e
    | some d' =>
      rw [h] at e; cases e
      obtain ⟨v, h1, h2⟩ := r.at h
      exact ⟨v, by rw [List.getElem?_map, h1]; rfl, h2⟩
  emp := fun _ _ => rfl
  nd := fun _ => List.nodup_nil
  dis := fun _ _ _ _ z => nomatch z
  nb := fun _ _ z => nomatch z
  le0 := BEx.refl B
  fr := fun a o _ e _ => .inl e
  tk := TKC.refl t
  own := fun _ _ z => nomatch z
  bnew := fun a e => .inl e
  keep := fun _ z => nomatch z
  lkd := fun _ z => nomatch z
  hx := fun _ z => nomatch z
theorem call_pure {d : D} {A' : Ev} {Q : VK} (t : TabC cl H) (s : BLe B H) (r : RepL K cl B H ds vs fp) (hn : ds.length = n) (e : f (D.frzL ds) = some (d, A')) (c : D.plainL ds = true ∨ d.clean = true)
    (q : ∀ v B' H' fq, New B H B' H' → Rep K cl B' H' d v fq → Fresh H B' fq → Q v H') : SpF K cl [] n f vs H Q E := by
  obtain ⟨s2, le, r2⟩ := r.freeze s
  refine ⟨by rw [← r.length]; exact hn, addB B H fp, D.frzL ds, _, [], good0 s2 r2 t, d, A', e, fun σ' B' H' F' v fq g rp w => ?_⟩
  have n2 : New (addB B H fp) H B' H' := ⟨{ toTK := g.tk.toTK, keep := fun a o nt e => (g.fr a o nt e (fun z => nomatch z)).elim id fun ⟨p, hp, _⟩ => (nomatch hp) }, g.le0, g.sub, fun a e => (g.bnew a e).imp id fun h => h.elim id fun z => (nomatch z)⟩
  have f2 : Fresh H B' fq := ⟨w.nd, fun a z => (w.own a z).resolve_left (fun z => nomatch z), w.nb⟩
  obtain ⟨B2, n3, r3, f3⟩ := New.thaw s r.stand' n2 rp f2 (c.imp (fun h => RepL.plain h r) id)
  exact q v B2 H' fq n3 r3 f3
end
inductive Src where
  | p (i : Nat) | k (i : Nat) | c (i : Nat)
def Src.get {α : Type} (us ws cs : List α) : Src → Option α
  | .p i => us[i]?
  | .k i => ws[i]?
  | .c i => cs[i]?
def gsel : List Src → {α : Type} → List α → List α → List α → List α
  | [], _, _, _, _ => []
  | s :: src, _, us, ws, cs => match s.get us ws cs with
    | some a => a :: gsel src us ws cs
    | none => gsel src us ws cs
section
variable {K : PySem.W.Frag} {cl : Tb} {B H B' H' : Hp} {ds zs cs : List D} {vs kvs cvs : List V} {fp : List Addr}
end
structure KBs (K : PySem.W.Frag) (fd : FuncData) (ps : List Str) (n : Nat) (ks : List Str) (src : List Src) (cs : List D) (cvs : List V) : Prop where
  kb : ∃ cu, KBn K fd ps n ks (fun us ws => gsel src us ws cu) (fun vs zs => gsel src vs zs cvs)
  rep : ∀ cl B H, RepL K cl B H cs cvs []
theorem plainL_append {xs ys : List D} : D.plainL (xs ++ ys) = (D.plainL xs && D.plainL ys) := by
  induction xs with
  | nil => simp [D.plainL]
  | cons x xs ih => simp [D.plainL, ih, Bool.and_assoc]
section
variable {X : Cx} {cl : Tb} {CX : CXT} {k n : Nat} {f C : Addr} {fd : FuncData} {ps ks : List Str} {src : List Src} {cs : List D} {cvs : List V} {x m : Str} {p pos apos : Pos} {e o : Expr} {es : List Expr} {kws : List Keyword} {me : Ev → Option D} {ms mk : Ev → Option (List D)} {g : List D → Option (D × Ev)} {pl : Sem Bool}
theorem frzL_append {xs ys : List D} : D.frzL (xs ++ ys) = D.frzL xs ++ D.frzL ys := by
  induction xs with
  | nil => rfl
  | cons x xs ih => simp [D.frzL, ih]
def Ar (n : Nat) (g : List D → Option (D × Ev)) : Prop := ∀ ds r, g ds = some r → ds.length = n
theorem ar_runF {n N : Nat} {m : SM} : Ar n (runF n N m) := fun ds r h => by
  unfold runF at h
  split at h
  · assumption
  · cases h
def isObj (c : Nat) (m : Str) : D → Bool
  | .obj _ c' fs _ => decide (c' = c) && decide (m ∉ fs)
  | _ => false
theorem lookup_none {fs : List Str} {vs : List V} {m : Str} (h : m ∉ fs) : (fs.zip vs).lookup m = none := by
  induction fs generalizing vs with
  | nil => rfl
  | cons f fs ih =>
    cases vs with
    | nil => rfl
    | cons v vs =>
      rw [List.zip_cons_cons, List.lookup_cons]
      have h1 : (m == f) = false := by simp; exact fun e => h (by simp [e])
      rw [h1]
      exact ih fun z => h (by simp [z])
theorem isObj_view {cl : Nat → Addr} {K : PySem.W.Frag} {B H : Hp} {c : Nat} {d : D} {v : V} {fp : List Addr} (h : isObj c m d = true) (s : BLe B H) (r : Rep K cl B H d v fp) : ∃ a dx fs, v = .ref a ∧ H a = some (.ins (cl c) dx fs) ∧ fs.lookup m = none := by
  unfold isObj at h
  split at h
  · rename_i mm c' fs ds
    simp only [Bool.and_eq_true, decide_eq_true_eq] at h
    obtain ⟨a, dx, vs, fq, e, q, _, _⟩ := r.obj_view s
    rw [h.1] at q
    exact ⟨a, dx, _, e, q, lookup_none h.2⟩
  · cases h
def mRecv (c : Nat) (m : Str) (me : Ev → Option D) (ms : Ev → Option (List D)) : Ev → Option (List D) := fun A => (me A).bind fun d => if isObj c m d = true then (ms A).map (d :: ·) else none
end
end VI
set_option Elab.async false
set_option linter.all false
set_option maxRecDepth 100000
set_option autoImplicit false
namespace VI
open PySem L2
def childs : D → Option (List D)
  | .lst true xs => some xs
  | .lsa _ xs => some xs
  | .dct true _ xs => some xs
  | .dtt true _ xs => some xs
  | .obj true _ _ xs => some xs
  | .tup xs => some xs
  | _ => none
def reChild : D → List D → D
  | .lst m _, ys => .lst m ys
  | .lsa as _, ys => .lsa as ys
  | .dct m ks _, ys => .dct m ks ys
  | .dtt m ks _, ys => .dtt m ks ys
  | .obj m c fs _, ys => .obj m c fs ys
  | .tup _, ys => .tup ys
  | d, _ => d
def getP : D → List Nat → Option D
  | d, [] => some d
  | d, j :: π => (childs d).bind fun xs => xs[j]?.bind fun e => getP e π
def setP : D → List Nat → D → D
  | _, [], e => e
  | d, j :: π, e => match childs d with
    | some xs => (match xs[j]? with
      | some x => reChild d (xs.set j (setP x π e))
      | none => d)
    | none => d
def kid (H : Hp) (v : V) (j : Nat) : Option V := match v with
  | .ref a => (match H a with
    | some (.lst vs) => vs[j]?
    | some (.dK kvs) => (kvs[j]?).map (·.2)
    | some (.dT kvs) => (kvs[j]?).map (·.2)
    | some (.ins _ _ fs) => (fs[j]?).map (·.2)
    | some (.tup vs) => vs[j]?
    | _ => none)
  | _ => none
def walk (H : Hp) : V → List Nat → Option V
  | v, [] => some v
  | v, j :: π => (kid H v j).bind fun w => walk H w π
section
variable {K : PySem.W.Frag} {cl : Tb} {G : GS} {B H B' H' : Hp} {σ σ' : St} {A A' : Ev} {F F' : Nat → List Addr} {d e0 : D} {ds xs : List D} {v u : V} {vs : List V} {fp : List Addr}
theorem kid_mono (ex : HEx H H') {j : Nat} (h : kid H v j = some u) : kid H' v j = some u := by
  unfold kid at h ⊢
  cases v <;> simp only at h ⊢ <;> try (cases h; done)
  rename_i a
  cases q : H a with
  | none => rw [q] at h; cases h
  | some o =>
    rw [q] at h
    by_cases n : NT o
    · rw [ex.keep a o n q]; exact h
    · obtain ⟨ps, rfl⟩ : ∃ ps, o = .tbl ps := Classical.byContradiction fun z => n fun ps e => z ⟨ps, e⟩
      cases h
theorem walk_mono (ex : HEx H H') : ∀ {π : List Nat} {v : V}, walk H v π = some u → walk H' v π = some u
  | [], v, h => h
  | j :: π, v, h => by
    unfold walk at h ⊢
    simp only [Option.bind_eq_some_iff] at h ⊢
    obtain ⟨w, h1, h2⟩ := h
    exact ⟨w, kid_mono ex h1, walk_mono ex h2⟩
theorem RepL.foc {cl : Nat → Addr} : ∀ {ds : List D} {vs : List V} {fp : List Addr}, RepL K cl B H ds vs fp → ∀ {j : Nat} {x : D}, ds[j]? = some x → ∃ w l f r, vs[j]? = some w ∧ fp = l ++ f ++ r ∧ Rep K cl B H x w f ∧
    ∀ (B' H' : Hp) (x' : D) (w' : V) (f' : List Addr), BLe0 B B' → (∀ a ∈ l ++ r, H' a = H a) → Rep K cl B' H' x' w' f' → RepL K cl B' H' (ds.set j x') (vs.set j w') (l ++ f' ++ r)
  | [], _, _, _, j, x, e => by simp at e
  | d :: ds, _, _, h, j, x, e => by
    simp only [RepL] at h
    obtain ⟨v, vr, f1, f2, e1, e2, r, rr⟩ := h
    subst e1 e2
    cases j with
    | zero =>
      simp at e; subst e
      refine ⟨v, [], f1, f2, rfl, by simp, r, fun B' H' x' w' f' b hs q => ?_⟩
      simp only [List.set_cons_zero, List.nil_append]
      exact repL_cons q (rr.mono b fun a z => hs a (by simp [z]))
    | succ j =>
      obtain ⟨w, l, f, r', q1, q2, q3, q4⟩ := RepL.foc rr (j := j) (by simpa using e)
      subst q2
      refine ⟨w, f1 ++ l, f, r', by simpa using q1, by simp, q3, fun B' H' x' w' f' b hs q => ?_⟩
      simp only [List.set_cons_succ]
      have := repL_cons (r.mono b fun a z => hs a (by simp [z])) (q4 B' H' x' w' f' b (fun a z => hs a (by rcases List.mem_append.mp z with z | z <;> simp [z])) q)
      simpa using this
theorem zip_snd {α : Type} : ∀ {ks : List α} {vs : List V} (h : ks.length = vs.length) (j : Nat), ((ks.zip vs)[j]?).map (·.2) = vs[j]?
  | [], [], _, j => rfl
  | [], _ :: _, h, _ => by simp at h
  | _ :: _, [], h, _ => by simp at h
  | k :: ks, v :: vs, h, 0 => rfl
  | k :: ks, v :: vs, h, j + 1 => by simpa using zip_snd (ks := ks) (vs := vs) (by simpa using h) j
theorem Rep.node {cl : Nat → Addr} (s : BLe B H) (h : Rep K cl B H d v fp) (hc : childs d = some xs) : ∃ vs pre fq, fp = pre ++ fq ∧ RepL K cl B H xs vs fq ∧ (∀ j, kid H v j = vs[j]?) ∧
    ∀ (B' H' : Hp) (ys : List D) (gq : List Addr), BLe0 B B' → (∀ b ∈ pre, H' b = H b) → ys.length = xs.length → RepL K cl B' H' ys vs gq → Rep K cl B' H' (reChild d ys) v (pre ++ gq) := by
  cases d <;> simp only [childs] at hc <;> try (cases hc; done)
  case tup ds =>
    cases hc
    simp only [Rep] at h
    obtain ⟨a, vs, e, q, r⟩ := h
    refine ⟨vs, [], fp, rfl, r, fun j => by subst e; simp only [kid, s.tup _ _ q], fun B' H' ys gq b hs hl rr => ?_⟩
    simp only [reChild, Rep]
    exact ⟨a, vs, e, b.tup _ _ q, rr⟩
  case lst m ds =>
    cases m <;> simp only [childs] at hc <;> cases hc
    simp only [Rep] at h
    obtain ⟨a, vs, fq, e, q, r, e2⟩ := h
    refine ⟨vs, [a], fq, e2, r, fun j => by subst e; simp only [kid, q], fun B' H' ys gq b hs hl rr => ?_⟩
    simp only [reChild, Rep]
    exact ⟨a, vs, gq, e, (hs a (by simp)).trans q, rr, rfl⟩
  case lsa as ds =>
    cases hc
    simp only [Rep] at h
    obtain ⟨a, vs, fq, e, q, r, e2, e3⟩ := h
    refine ⟨vs, [a], fq, e2, r, fun j => by subst e; simp only [kid, q], fun B' H' ys gq b hs hl rr => ?_⟩
    simp only [reChild, Rep]
    exact ⟨a, vs, gq, e, (hs a (by simp)).trans q, rr, rfl, e3⟩
  case dct m ks ds =>
    cases m <;> simp only [childs] at hc <;> cases hc
    simp only [Rep] at h
    obtain ⟨a, vs, fq, e, q, l, r, e2⟩ := h
    refine ⟨vs, [a], fq, e2, r, fun j => by subst e; simp only [kid, q]; exact zip_snd (l.trans r.length) j, fun B' H' ys gq b hs hl rr => ?_⟩
    simp only [reChild, Rep]
    exact ⟨a, vs, gq, e, (hs a (by simp)).trans q, by rw [hl]; exact l, rr, rfl⟩
  case dtt m ks ds =>
    cases m <;> simp only [childs] at hc <;> cases hc
    simp only [Rep] at h
    obtain ⟨a, vs, fq, e, q, l, r, e2⟩ := h
    refine ⟨vs, [a], fq, e2, r, fun j => by subst e; simp only [kid, q]; exact zip_snd (l.trans r.length) j, fun B' H' ys gq b hs hl rr => ?_⟩
    simp only [reChild, Rep]
    exact ⟨a, vs, gq, e, (hs a (by simp)).trans q, by rw [hl]; exact l, rr, rfl⟩
  case obj m c fs ds =>
    cases m <;> simp only [childs] at hc <;> cases hc
    simp only [Rep] at h
    obtain ⟨a, dx, vs, fq, e, q, l, r, e2⟩ := h
    refine ⟨vs, [a], fq, e2, r, fun j => by subst e; simp only [kid, q]; exact zip_snd (l.trans r.length) j, fun B' H' ys gq b hs hl rr => ?_⟩
    simp only [reChild, Rep]
    exact ⟨a, dx, vs, gq, e, (hs a (by simp)).trans q, by rw [hl]; exact l, rr, rfl⟩
theorem Rep.focus {cl : Nat → Addr} (s : BLe B H) : ∀ {π : List Nat} {d : D} {v : V} {fp : List Addr} {e0 : D}, Rep K cl B H d v fp → getP d π = some e0 → ∃ u l f r, walk H v π = some u ∧ fp = l ++ f ++ r ∧ Rep K cl B H e0 u f ∧
    ∀ (B' H' : Hp) (e' : D) (f' : List Addr), BLe0 B B' → (∀ a ∈ l ++ r, H' a = H a) → Rep K cl B' H' e' u f' → Rep K cl B' H' (setP d π e') v (l ++ f' ++ r)
  | [], d, v, fp, e0, h, e => by
    cases e
    exact ⟨v, [], fp, [], rfl, by simp, h, fun B' H' e' f' _ _ q => by simpa [setP] using q⟩
  | j :: π, d, v, fp, e0, h, e => by
    simp only [getP, Option.bind_eq_some_iff] at e
    obtain ⟨xs, hc, x, hx, hg⟩ := e
    obtain ⟨vs, pre, fq, e2, r1, hk, hre⟩ := h.node s hc
    obtain ⟨w, l, f, r, q1, q2, q3, q4⟩ := r1.foc hx
    obtain ⟨u, l2, f2, r2, w1, w2, w3, w4⟩ := Rep.focus s q3 hg
    subst e2 q2 w2
    refine ⟨u, pre ++ (l ++ l2), f2, r2 ++ r, ?_, by simp, w3, fun B' H' e' f' b hs q => ?_⟩
    · simp only [walk, hk, q1, Option.bind_some]; exact w1
    · have s1 := w4 B' H' e' f' b (fun c z => hs c (by rcases List.mem_append.mp z with z | z <;> simp [z])) q
      have s2 := q4 B' H' _ w _ b (fun c z => hs c (by rcases List.mem_append.mp z with z | z <;> simp [z])) s1
      have e3 : vs.set j w = vs := by
        apply List.ext_getElem?
        intro i
        by_cases hi : i = j
        · subst hi
          have := (List.getElem?_eq_some_iff.mp q1).1
          rw [List.getElem?_set_self this]; exact q1.symm
        · rw [List.getElem?_set_ne (Ne.symm hi)]
      rw [e3] at s2
      have s3 := hre B' H' _ _ b (fun c z => hs c (by simp [z])) (by simp) s2
      simp only [setP, hc, hx]
      simpa using s3
theorem BLe.upd_out {a : Addr} {o : HO} (s : BLe B H) (h : B a = none) : BLe B (upd H a o) := by
  have ne : ∀ {p : Addr} {u : HO}, B p = some u → p ≠ a := fun e1 e2 => by rw [e2, h] at e1; cases e1
  refine ⟨⟨fun p u r => ?_, (fun p C dx fs e => by rw [upd_ne (ne e)]; exact s.ins _ _ _ _ e), (fun p vs e => by rw [upd_ne (ne e)]; exact s.lst _ _ e), (fun p vs e => by rw [upd_ne (ne e)]; exact s.tup _ _ e), (fun p l e => by rw [upd_ne (ne e)]; exact s.xd _ _ e)⟩, s.nt⟩
  have hp : p ≠ a := by
    rcases r with r | ⟨w, r⟩
    · exact ne r
    · exact ne r
  rcases s.rd p u r with q | ⟨w, q⟩
  · exact .inl (by rw [upd_ne hp]; exact q)
  · exact .inr ⟨w, by rw [upd_ne hp]; exact q⟩
def updP (A : Ev) (i : Nat) (π : List Nat) (e' : D) : Ev := match A[i]? with
  | some (some d) => A.set i (some (setP d π e'))
  | _ => A
theorem Good.change {i : Nat} {π : List Nat} (g : Good K cl G B H σ A F) (hA : A[i]? = some (some d)) (hg : getP d π = some e0) (hv : σ[i]? = some (some v)) (hw : walk H v π = some u) :
    ∃ f, Rep K cl B H e0 u f ∧ f.Nodup ∧ (∀ a ∈ f, a ∈ F i) ∧ ∀ (a : Addr) (o : HO) (e' : D) (f' fy : List Addr), a ∈ f → ownable o = true → Own G B F fy → f'.Nodup → (∀ b ∈ f', b ∈ f ∨ b ∈ fy) → Rep K cl B (upd H a o) e' u f' →
      ∃ F', Good K cl G B (upd H a o) σ (updP A i π e') F' := by
  obtain ⟨v', hv', r⟩ := g.at_ i d hA
  rw [hv] at hv'
  cases hv'
  obtain ⟨u', l, f, rr, w1, w2, w3, w4⟩ := r.focus g.sub hg
  rw [hw] at w1
  cases w1
  have hnd : (l ++ f ++ rr).Nodup := w2 ▸ g.nd i
  have hin : ∀ a ∈ f, a ∈ F i := fun a z => by rw [w2]; simp [z]
  refine ⟨f, w3, (hnd.sublist (by simp)), hin, fun a o e' f' fy ha ho wy nd' hsub rep => ?_⟩
  have haF : a ∈ F i := hin a ha
  have hBa : B a = none := g.nb i a haF
  have hout : ∀ b ∈ l ++ rr, b ≠ a := fun b z e => by
    subst e
    rw [List.append_assoc, List.nodup_append] at hnd
    obtain ⟨_, h2, h3⟩ := hnd
    rw [List.nodup_append] at h2
    rcases List.mem_append.mp z with z | z
    · exact h3 b z b (by simp [ha]) rfl
    · exact h2.2.2 b ha b z rfl
  have newRep := w4 B (upd H a o) e' f' (BLe.refl B) (fun b z => upd_ne (hout b z)) rep
  have hFi : ∀ b ∈ l ++ f' ++ rr, b ∈ F i ∨ b ∈ fy := fun b z => by
    rw [w2]
    rcases List.mem_append.mp z with z | z
    · rcases List.mem_append.mp z with z | z
      · exact .inl (by simp [z])
      · exact (hsub b z).imp (fun h => by simp [h]) id
    · exact .inl (by simp [z])
  have e1 : updP A i π e' = A.set i (some (setP d π e')) := by simp only [updP, hA]
  rw [e1]
  have hi : i < A.length := (List.getElem?_eq_some_iff.mp hA).1
  refine ⟨setF F i (l ++ f' ++ rr), ?_⟩
  refine ⟨g.sub.upd_out hBa, by rw [List.length_set]; exact g.len, fun j d' e => ?_, fun j e => ?_, fun j => ?_, fun j k hjk b z y => ?_, fun j b z => ?_, g.le0, fun b ob nt hb hs => ?_, (by
    obtain ⟨ob, h2, h3⟩ := w3.stand' a ha
    exact g.tk.trans (TK.put h2 h3)), fun j b z => ?_, g.bnew, g.keep, fun p hp => ?_, g.hx⟩
  · by_cases h : j = i
    · subst h
      rw [List.getElem?_set_self hi] at e; cases e
      rw [setF_same]; exact ⟨v, hv, newRep⟩
    · rw [List.getElem?_set_ne (Ne.symm h)] at e
      rw [setF_ne h]
      obtain ⟨w, h1, h2⟩ := g.at_ j d' e
      exact ⟨w, h1, h2.mono (BLe.refl B) fun b z => upd_ne fun q => g.dis i j (Ne.symm h) a haF (q ▸ z)⟩
  · by_cases h : j = i
    · subst h; exact absurd (List.getElem?_set_self hi) (e _)
    · rw [setF_ne h]; exact g.emp j fun d' q => e d' (by rw [List.getElem?_set_ne (Ne.symm h)]; exact q)
  · by_cases h : j = i
    · subst h; rw [setF_same]
      rw [List.append_assoc, List.nodup_append] at hnd ⊢
      obtain ⟨h1, h2, h3⟩ := hnd
      rw [List.nodup_append] at h2 ⊢
      have dl : ∀ b ∈ l, b ∈ F j := fun b z => by rw [w2]; simp [z]
      have dr : ∀ b ∈ rr, b ∈ F j := fun b z => by rw [w2]; simp [z]
      refine ⟨h1, ⟨nd', h2.2.1, fun b zb c zc e => ?_⟩, fun b zb c zc e => ?_⟩
      · subst e
        rcases hsub b zb with q | q
        · exact h2.2.2 b q b zc rfl
        · exact wy.dis j b q (dr b zc)
      · subst e
        rcases List.mem_append.mp zc with z | z
        · rcases hsub b z with q | q
          · exact h3 b zb b (by simp [q]) rfl
          · exact wy.dis j b q (dl b zb)
        · exact h3 b zb b (by simp [z]) rfl
    · rw [setF_ne h]; exact g.nd j
  · by_cases h : j = i
    · subst h; rw [setF_same] at z; rw [setF_ne (Ne.symm hjk)] at y
      rcases hFi b z with q | q
      · exact g.dis j k hjk b q y
      · exact wy.dis k b q y
    · rw [setF_ne h] at z
      by_cases h2 : k = i
      · subst h2; rw [setF_same] at y
        rcases hFi b y with q | q
        · exact g.dis j k hjk b z q
        · exact wy.dis j b q z
      · rw [setF_ne h2] at y; exact g.dis j k hjk b z y
  · by_cases h : j = i
    · subst h; rw [setF_same] at z
      rcases hFi b z with q | q
      · exact g.nb j b q
      · exact wy.nb b q
    · rw [setF_ne h] at z; exact g.nb j b z
  · by_cases h : b = a
    · subst h
      rcases g.own i b haF with q | q
      · exact absurd q hs
      · rw [hb] at q; cases q
    · rw [upd_ne h]; exact g.fr b ob nt hb hs
  · by_cases h : j = i
    · subst h; rw [setF_same] at z
      rcases hFi b z with q | q
      · exact g.own j b q
      · exact wy.own b q
    · rw [setF_ne h] at z; exact g.own j b z
  · by_cases h : p.1 = a
    · have h1 := g.lkd p hp
      obtain ⟨ob, h2, h3⟩ := w3.stand' a ha
      rw [h, h2] at h1; cases h1; cases h3
    · rw [upd_ne h]; exact g.lkd p hp
end
abbrev Pl := Ev → Option (Nat × List Nat × D)
def EvP (X : Cx) (cl : Tb) (e : Expr) (p : Pl) : Prop := ∃ t : TE, PE X e t ∧ ∀ σ A B H, REnv X.K cl B H σ A → ∀ i π e0, p A = some (i, π, e0) → ∃ d v u, A[i]? = some (some d) ∧ getP d π = some e0 ∧ σ[i]? = some (some v) ∧ walk H v π = some u ∧
  ∀ Q : VK, (∀ B' H', New B H B' H' → Q u H') → t σ H Q
section
variable {X : Cx} {cl : Tb} {mu : List Nat} {e o : Expr} {es : List Expr} {me mk : Ev → Option D} {pos : Pos} {p : Pl}
def pN (i : Nat) : Pl := fun A => match A[i]? with
  | some (some d) => some (i, [], d)
  | _ => none
theorem ep_name {i : Nat} (h : PE X e (tVar i)) : EvP X cl e (pN i) := by
  refine ⟨_, h, fun σ A B H R j π e0 hd => ?_⟩
  unfold pN at hd
  split at hd
  · rename_i d hA
    simp only [Option.some.injEq, Prod.mk.injEq] at hd
    obtain ⟨h1, h2, h3⟩ := hd
    subst h1 h2 h3
    obtain ⟨v, fp, e1, r⟩ := R.at_ i d hA
    exact ⟨d, v, v, hA, rfl, e1, rfl, fun Q q => ⟨v, e1, q B H (New.refl R.sub)⟩⟩
  · cases hd
end
end VI
set_option Elab.async false
set_option linter.all false
set_option maxRecDepth 100000
set_option autoImplicit false
namespace VI
open PySem L2
section
variable {K : PySem.W.Frag} {cl : Tb} {G : GS} {B H B' H' : Hp} {σ σ' : St} {A A' : Ev} {F F' : Nat → List Addr} {d e0 : D} {ds xs : List D} {v u : V} {vs : List V} {fp : List Addr}
theorem RepL.off {cl : Nat → Addr} {a : Addr} {o : HO} (r : RepL K cl B H ds vs fp) (h : a ∉ fp) : RepL K cl B (upd H a o) ds vs fp := r.mono (BLe.refl B) fun b z => upd_ne fun e => h (e ▸ z)
structure Nd (K : PySem.W.Frag) (cl : Tb) (G : GS) (B H : Hp) (σ : St) (A : Ev) (F : Nat → List Addr) (i : Nat) (π : List Nat) (a : Addr) (vs : List V) (xs : List D) (fq : List Addr) : Prop where
  rep : RepL K cl B H xs vs fq
  nd : fq.Nodup
  off : ∀ fy, Own G B F fy → (∀ b ∈ fy, b ∉ fq) ∧ a ∉ fy
  put : ∀ (o : HO) (e' : D) (gq fy : List Addr), ownable o = true → Own G B F fy → gq.Nodup → (∀ b ∈ gq, b ∈ fq ∨ b ∈ fy) → (∀ H', H' a = some o → (∀ b ∈ gq, H' b = H b) → Rep K cl B H' e' (.ref a) (a :: gq)) → ∃ F', Good K cl G B (upd H a o) σ (updP A i π e') F'
theorem Good.nd_ {i : Nat} {π : List Nat} (g : Good K cl G B H σ A F) (hA : A[i]? = some (some d)) (hg : getP d π = some e0) (hv : σ[i]? = some (some v)) (hw : walk H v π = some u) :
    ∃ f, Rep K cl B H e0 u f ∧ ∀ a fq vs xs, u = .ref a → f = a :: fq → RepL K cl B H xs vs fq → Nd K cl G B H σ A F i π a vs xs fq := by
  obtain ⟨f, r, nd, hin, hch⟩ := g.change hA hg hv hw
  refine ⟨f, r, fun a fq vs xs e1 e2 e3 => ?_⟩
  subst e1 e2
  refine ⟨e3, (List.nodup_cons.mp nd).2, fun fy wy => ⟨fun b z q => wy.dis i b z (hin b (List.mem_cons_of_mem _ q)), fun z => wy.dis i a z (hin a (List.mem_cons_self ..))⟩, fun o e' gq fy ho wy nd' hs hr => ?_⟩
  have hag : a ∉ gq := fun z => by
    rcases hs a z with q | q
    · exact (List.nodup_cons.mp nd).1 q
    · exact wy.dis i a q (hin a (List.mem_cons_self ..))
  refine hch a o e' (a :: gq) fy (List.mem_cons_self ..) ho wy (List.nodup_cons.mpr ⟨hag, nd'⟩) (fun b z => ?_) (hr _ upd_same fun b z => upd_ne fun e => hag (e ▸ z))
  rcases List.mem_cons.mp z with rfl | z
  · exact .inl (List.mem_cons_self ..)
  · exact (hs b z).imp (List.mem_cons_of_mem _) id
theorem Good.lstN {i : Nat} {π : List Nat} (g : Good K cl G B H σ A F) (hA : A[i]? = some (some d)) (hg : getP d π = some (.lst true xs)) (hv : σ[i]? = some (some v)) (hw : walk H v π = some u) :
    ∃ a vs fq, u = .ref a ∧ H a = some (.lst vs) ∧ Nd K cl G B H σ A F i π a vs xs fq := by
  obtain ⟨f, r, h⟩ := g.nd_ hA hg hv hw
  simp only [Rep] at r
  obtain ⟨a, vs, fq, e1, e2, e3, e4⟩ := r
  exact ⟨a, vs, fq, e1, e2, h a fq vs xs e1 e4 e3⟩
theorem Good.objN {i : Nat} {π : List Nat} {c : Nat} {fs : List Str} (g : Good K cl G B H σ A F) (hA : A[i]? = some (some d)) (hg : getP d π = some (.obj true c fs xs)) (hv : σ[i]? = some (some v)) (hw : walk H v π = some u) :
    ∃ a dx vs fq, u = .ref a ∧ H a = some (.ins (cl c) dx (fs.zip vs)) ∧ fs.length = xs.length ∧ Nd K cl G B H σ A F i π a vs xs fq := by
  obtain ⟨f, r, h⟩ := g.nd_ hA hg hv hw
  simp only [Rep] at r
  obtain ⟨a, dx, vs, fq, e1, e2, l, e3, e4⟩ := r
  exact ⟨a, dx, vs, fq, e1, e2, l, h a fq vs xs e1 e4 e3⟩
section
variable {i : Nat} {π : List Nat} {a : Addr} {fq fy : List Addr} {y : V} {dy : D} {ys : List D} {ws : List V}
theorem nodup_app (h1 : fq.Nodup) (h2 : fy.Nodup) (h3 : ∀ b ∈ fy, b ∉ fq) : (fq ++ fy).Nodup := List.nodup_append.mpr ⟨h1, h2, fun b z c z2 e => h3 c z2 (e ▸ z)⟩
theorem mem_app {b : Addr} (z : b ∈ fq ++ fy) : b ∈ fq ∨ b ∈ fy := List.mem_append.mp z
theorem Nd.lstApp (n : Nd K cl G B H σ A F i π a vs xs fq) (r : Rep K cl B H dy y fy) (w : Own G B F fy) : ∃ F', Good K cl G B (upd H a (.lst (vs ++ [y]))) σ (updP A i π (.lst true (xs ++ [dy]))) F' := by
  refine n.put (.lst (vs ++ [y])) (.lst true (xs ++ [dy])) (fq ++ fy) fy rfl w (nodup_app n.nd w.nd (n.off fy w).1) (fun b z => mem_app z) fun H' e hs => ?_
  simp only [Rep]
  refine ⟨a, _, fq ++ fy, rfl, e, ?_, rfl⟩
  have := RepL.append n.rep (repL_cons r repL_nil)
  rw [List.append_nil] at this
  exact this.mono (BLe.refl B) hs
theorem Nd.setj (n : Nd K cl G B H σ A F i π a vs xs fq) (r : Rep K cl B H dy y fy) (w : Own G B F fy) {j : Nat} {x : D} (hj : xs[j]? = some x) :
    ∃ gq, gq.Nodup ∧ (∀ b ∈ gq, b ∈ fq ∨ b ∈ fy) ∧ RepL K cl B H (xs.set j dy) (vs.set j y) gq := by
  obtain ⟨u, l, f, rr, q1, q2, q3, q4⟩ := n.rep.foc hj
  refine ⟨l ++ fy ++ rr, ?_, fun b z => ?_, q4 B H dy y fy (BLe.refl B) (fun _ _ => rfl) r⟩
  · have nd := n.nd
    rw [q2, List.append_assoc, List.nodup_append] at nd
    obtain ⟨h1, h2, h3⟩ := nd
    rw [List.nodup_append] at h2
    have off := (n.off fy w).1
    rw [List.append_assoc, List.nodup_append, List.nodup_append]
    refine ⟨h1, ⟨w.nd, h2.2.1, fun b zb c zc e => ?_⟩, fun b zb c zc e => ?_⟩
    · subst e; exact off b zb (by rw [q2]; simp [zc])
    · subst e
      rcases List.mem_append.mp zc with z | z
      · exact off b z (by rw [q2]; simp [zb])
      · exact h3 b zb b (by simp [z]) rfl
  · rw [q2]
    rcases List.mem_append.mp z with z | z
    · rcases List.mem_append.mp z with z | z
      · exact .inl (by simp [z])
      · exact .inr z
    · exact .inl (by simp [z])
theorem Nd.appj (n : Nd K cl G B H σ A F i π a vs xs fq) (r : Rep K cl B H dy y fy) (w : Own G B F fy) : (fq ++ fy).Nodup ∧ (∀ b ∈ fq ++ fy, b ∈ fq ∨ b ∈ fy) ∧ RepL K cl B H (xs ++ [dy]) (vs ++ [y]) (fq ++ fy) := by
  have := RepL.append n.rep (repL_cons r repL_nil)
  rw [List.append_nil] at this
  exact ⟨nodup_app n.nd w.nd (n.off fy w).1, fun b z => mem_app z, this⟩
end
end
def putT {κ : Type} [DecidableEq κ] (ks : List κ) (xs : List D) (k : κ) (d : D) : List κ × List D := match ks.idxOf? k with
  | some j => (ks, xs.set j d)
  | none => (ks ++ [k], xs ++ [d])
theorem idxOf_none {κ : Type} [DecidableEq κ] {k : κ} : ∀ {ks : List κ}, ks.idxOf? k = none → k ∉ ks
  | [], _ => List.not_mem_nil
  | g :: ks, h => by
    rw [List.idxOf?_cons] at h
    by_cases hg : g = k
    · subst hg; simp at h
    · have h1 : (g == k) = false := by simpa using hg
      rw [h1] at h
      simp only [Bool.false_eq_true, if_false, Option.map_eq_none_iff] at h
      exact fun z => (List.mem_cons.mp z).elim (fun e => hg e.symm) (idxOf_none h)
theorem putF_none {fs : List Str} {vs : List V} {k : Str} {y : V} (l : fs.length = vs.length) (h : fs.idxOf? k = none) : putF k y (fs.zip vs) = (fs ++ [k]).zip (vs ++ [y]) := by
  have hn := idxOf_none h
  clear h
  induction fs generalizing vs with
  | nil => cases vs with
    | nil => rfl
    | cons _ _ => simp at l
  | cons g fs ih => cases vs with
    | nil => simp at l
    | cons v vs =>
      rw [List.zip_cons_cons, putF, if_neg fun e => hn (by simp [e]), ih (by simpa using l) fun z => hn (by simp [z])]
      rfl
theorem putF_some {fs : List Str} {vs : List V} {k : Str} {y : V} {j : Nat} (l : fs.length = vs.length) (h : fs.idxOf? k = some j) : putF k y (fs.zip vs) = fs.zip (vs.set j y) := by
  induction fs generalizing vs j with
  | nil => simp at h
  | cons g fs ih => cases vs with
    | nil => simp at l
    | cons v vs =>
      rw [List.idxOf?_cons] at h
      by_cases hg : g = k
      · subst hg
        simp at h; subst h
        rw [List.zip_cons_cons, putF, if_pos rfl]; rfl
      · have h1 : (g == k) = false := by simpa using hg
        rw [h1] at h
        simp only [Bool.false_eq_true, if_false, Option.map_eq_some_iff] at h
        obtain ⟨m, h3, rfl⟩ := h
        rw [List.zip_cons_cons, putF, if_neg hg, ih (by simpa using l) h3]; rfl
theorem idxOf_lt {κ : Type} [DecidableEq κ] {k : κ} : ∀ {ks : List κ} {j : Nat}, ks.idxOf? k = some j → j < ks.length
  | [], j, h => by simp at h
  | g :: ks, j, h => by
    rw [List.idxOf?_cons] at h
    by_cases hg : g = k
    · subst hg; simp at h; subst h; simp
    · have h1 : (g == k) = false := by simpa using hg
      rw [h1] at h
      simp only [Bool.false_eq_true, if_false, Option.map_eq_some_iff] at h
      obtain ⟨m, h3, rfl⟩ := h
      have := idxOf_lt h3
      simp; omega
end VI
set_option Elab.async false
set_option linter.all false
set_option maxRecDepth 100000
set_option autoImplicit false
namespace VI
open PySem L2
section
variable {X : Cx} {cl : Tb} {mu : List Nat} {e o : Expr} {es : List Expr} {me mk : Ev → Option D} {pos pos' : Pos} {p : Pl}
theorem Own.news {G : GS} {B H B' H' : Hp} {F : Nat → List Addr} {fy : List Addr} (w : Own G B F fy) (n : New B H B' H') (st : ∀ a ∈ fy, ∃ o, H a = some o ∧ ownable o = true) : Own G B' F fy := by
  refine ⟨w.nd, fun a z => ?_, w.own, w.dis⟩
  cases q : B' a with
  | none => rfl
  | some uu =>
    rcases n.nb a (by rw [q]; exact fun e => nomatch e) with h | h
    · exact absurd (w.nb a z) h
    · obtain ⟨ob, e, w⟩ := st a z; exact (fot_own h e w).elim
def VE (X : Cx) (cl : Tb) (mu : List Nat) (e : Expr) (m : Ev → Option (D × Ev)) : Prop := ∃ t : TE, PE X e t ∧ ∀ (G : GS) σ A B H F, (∀ p ∈ G.kp, p.1 ∈ mu) → Good X.K cl G B H σ A F → ∀ d A', m A = some (d, A') →
  ∀ Q : VK, (∀ v B' H' F' fp, Good X.K cl G B' H' σ A' F' → Rep X.K cl B' H' d v fp → Own G B' F' fp → Q v H') → t σ H Q
theorem EvP.use (h : EvP X cl e p) : ∃ t : TE, PE X e t ∧ ∀ (G : GS) σ A B H F, Good X.K cl G B H σ A F → ∀ i π e0, p A = some (i, π, e0) → ∃ d v u, A[i]? = some (some d) ∧ getP d π = some e0 ∧ σ[i]? = some (some v) ∧ walk H v π = some u ∧
    ∀ Q : VK, (∀ B' H', New B H B' H' → Q u H') → t σ H Q := by
  obtain ⟨t, pe, r⟩ := h
  exact ⟨t, pe, fun G σ A B H F g i π e0 hp => r σ A B H g.renv i π e0 hp⟩
def bMeth1 (p : Pl) (me : Ev → Option D) (op : D → D → Option (D × D)) : Ev → Option (D × Ev) := fun A => (p A).bind fun z => (me A).bind fun y => (op z.2.2 y).map fun r => (r.1, updP A z.1 z.2.1 r.2)
theorem tyList {K : PySem.W.Frag} {a : Addr} {H : Hp} {vs : List V} (h : H a = some (.lst vs)) : tyV K "list" (.ref a) H := .inl ⟨rfl, vs, .of h⟩
def opAppend : D → D → Option (D × D) := fun x y => match x with
  | .lst true xs => if xs.length < 1000000 then some (.non, .lst true (xs ++ [y])) else none
  | _ => none
theorem ltLine {n : Nat} (h : n < 1000000) : n < sizeLine := Nat.lt_of_lt_of_le h (by rw [sizeLine_eq]; decide)
theorem ve_append {apos cpos : Pos} (ho : EvP X cl o p) (he : EvD X cl e me) (hb : attributeBase o "append" X.env (eval o X.env) = eval o X.env := by rfl)
    (hk : (((backTo cpos (starEach [e] X.env)).all (!·.1)) && ((backToKw cpos (keywordEach [] X.env)).all (·.1.isSome)) && decide (([e].length + ([] : List Keyword).length + if ([] : List Keyword).isEmpty = true then 0 else 1) < 30)) = true := by rfl)
    (hl : (apos.endLine == cpos.line) = true := by rfl) (hs : starEach [e] X.env = (false, eval e X.env) :: starEach [] X.env := by rfl) (hp : (backTo cpos (starEach [] X.env)).any (·.1) = false := by rfl) :
    VE X cl mu (.Call (.Attribute o "append" apos) [e] [] cpos) (bMeth1 p me opAppend) := by
  obtain ⟨t, pe, r⟩ := ho.use
  obtain ⟨t2, pe2, r2⟩ := he
  refine ⟨_, pe_bm PySem.F.plainAttrs_list PySem.F.slot_list_append PySem.F.type_list_append mt_append pe (pa_cons pe2 pa_nil hs) hb hk hl hs hp, fun G σ A B H F hkp g d A' hm Q q => ?_⟩
  unfold bMeth1 at hm
  simp only [Option.bind_eq_some_iff, Option.map_eq_some_iff] at hm
  obtain ⟨⟨i, π, e0⟩, hz, y, hy, ⟨r1, r3⟩, hop, hm⟩ := hm
  simp only at hop hm
  cases hm
  unfold opAppend at hop
  split at hop
  · rename_i xs
    split at hop
    · rename_i hlen
      cases hop
      obtain ⟨d0, v, u, hA, hg, hv, hw, hq⟩ := r G σ A B H F g i π _ hz
      refine hq _ fun B1 H1 n1 => ?_
      have g1 := g.news n1
      obtain ⟨a, vs, fq, e1, e2, nd⟩ := g1.lstN hA hg hv (walk_mono n1.ex hw)
      subst e1
      refine ⟨tyList e2, ?_⟩
      refine r2 σ A B1 H1 g1.renv y hy _ fun yv B2 H2 fy n2 ry fr => ?_
      obtain ⟨a2, vs2, fq2, e3, e4, nd2⟩ := (g1.news n2).lstN hA hg hv (walk_mono n2.ex (walk_mono n1.ex hw))
      cases e3
      obtain ⟨F', gg⟩ := nd2.lstApp ry (g1.ownF fr)
      exact ⟨a, vs2, yv, rfl, rfl, e4, ltLine (by rw [← nd2.rep.length]; exact hlen), q _ B2 _ F' [] gg rep_non Own.nil⟩
    · cases hop
  · cases hop
section
variable {apos cpos : Pos}
end
theorem VE.of (h : EvD X cl e me) : VE X cl mu e (fun A => (me A).map fun d => (d, A)) := by
  obtain ⟨t, pe, r⟩ := h
  refine ⟨t, pe, fun G σ A B H F hk g d A' hm Q q => ?_⟩
  simp only [Option.map_eq_some_iff, Prod.mk.injEq] at hm
  obtain ⟨d', h1, h2, h3⟩ := hm
  subst h2 h3
  exact r σ A B H g.renv _ h1 _ fun v B' H' fp n rp f => q v B' H' F fp (g.news n) rp (g.ownF f)
variable {m : Ev → Option (D × Ev)}
def sEff (m : Ev → Option (D × Ev)) : SM := fun A => (m A).map fun r => .nx r.2
theorem vs_eff (h : VE X cl mu e m) (hs : swapsWith e none pos.line X.env = pure false := by rfl) : VS X cl mu (.Expr e pos) (sEff m) := by
  obtain ⟨t, pe, r⟩ := h
  refine ⟨_, ps_expr pe hs, fun G σ A B H F hk g out eo Dn ok => ?_⟩
  unfold sEff at eo
  simp only [Option.map_eq_some_iff] at eo
  obtain ⟨⟨d, A'⟩, h1, rfl⟩ := eo
  exact r G σ A B H F hk g d A' h1 _ fun v B' H' F' fp g' _ _ => ok σ B' H' F' g'
def sEffR (m : Ev → Option (D × Ev)) : SM := fun A => (m A).map fun r => .rt r.1 r.2
theorem vs_effR (h : VE X cl mu e m) : VS X cl mu (.Return (some e) pos) (sEffR m) := by
  obtain ⟨t, pe, r⟩ := h
  refine ⟨_, ps_ret pe, fun G σ A B H F hk g out eo Dn ok => ?_⟩
  unfold sEffR at eo
  simp only [Option.map_eq_some_iff] at eo
  obtain ⟨⟨d, A'⟩, h1, rfl⟩ := eo
  exact r G σ A B H F hk g d A' h1 _ fun v B' H' F' fp g' rp w => ok σ B' H' F' v fp g' rp w
def sFldS (c : Nat) (f : Str) (p : Pl) (me : Ev → Option D) : SM := fun A => (p A).bind fun z => (me A).bind fun y => match z.2.2 with
  | .obj true c' fs xs => if c' = c ∧ fs.length < 900 then some (.nx (updP A z.1 z.2.1 (.obj true c (putT fs xs f y).1 (putT fs xs f y).2))) else none
  | _ => none
theorem vs_fld {c : Nat} {f : Str} (hC : Cls X.K (cl c)) (hN : NoAttr X.K (cl c) f) (ho : EvP X cl o p) (he : EvD X cl e me) (hs : swapsWith e (some (.Attribute o f pos')) pos.line X.env = pure false := by rfl) : VS X cl mu (.Assign [.Attribute o f pos'] e pos) (sFldS c f p me) := by
  obtain ⟨t, pe, r⟩ := ho.use
  obtain ⟨t2, pe2, r2⟩ := he
  refine ⟨_, ps_fld pe pe2 hs, fun G σ A B H F hk g out eo Dn ok => ?_⟩
  unfold sFldS at eo
  simp only [Option.bind_eq_some_iff] at eo
  obtain ⟨⟨i, π, e0⟩, hz, y, hy, eo⟩ := eo
  simp only at eo
  split at eo
  · rename_i c' fs xs
    split at eo
    · rename_i hc
      obtain ⟨rfl, hfs⟩ := hc
      cases eo
      refine r2 σ A B H g.renv y hy _ fun yv B1 H1 fy n1 ry fr => ?_
      have g1 := g.news n1
      have w1 := g.ownF fr
      obtain ⟨d0, v, u, hA, hg, hv, hw, hq⟩ := r G σ A B1 H1 F g1 i π _ hz
      refine hq _ fun B2 H2 n2 => ?_
      have g2 := g1.news n2
      have ry2 := ry.news n2
      have w2 : Own G B2 F fy := w1.news n2 ry.stand'
      obtain ⟨a, dx, vs, fq, e1, e2, l, nd⟩ := g2.objN hA hg hv (walk_mono n2.ex hw)
      have l2 : fs.length = vs.length := l.trans nd.rep.length
      refine ⟨a, _, dx, _, e1, e2, hC, hN, by rw [List.length_zip]; omega, ?_⟩
      cases hix : fs.idxOf? f with
      | none =>
        rw [putF_none l2 hix]
        obtain ⟨k1, k2, k3⟩ := nd.appj ry2 w2
        have e5 : putT fs xs f y = (fs ++ [f], xs ++ [y]) := by simp only [putT, hix]
        rw [e5] at ok
        obtain ⟨F', gg⟩ := nd.put (.ins (cl c') dx ((fs ++ [f]).zip (vs ++ [yv]))) (.obj true c' (fs ++ [f]) (xs ++ [y])) _ fy rfl w2 k1 k2 fun H' e hs => by
          simp only [Rep]
          exact ⟨a, dx, _, _, rfl, e, by simp [l], k3.mono (BLe.refl _) hs, rfl⟩
        exact ok σ B2 _ F' gg
      | some j =>
        rw [putF_some l2 hix]
        have hj : ∃ x, xs[j]? = some x := ⟨_, List.getElem?_eq_getElem (by rw [← l]; exact idxOf_lt hix)⟩
        obtain ⟨x, hj⟩ := hj
        obtain ⟨gq, k1, k2, k3⟩ := nd.setj ry2 w2 hj
        have e5 : putT fs xs f y = (fs, xs.set j y) := by simp only [putT, hix]
        rw [e5] at ok
        obtain ⟨F', gg⟩ := nd.put (.ins (cl c') dx (fs.zip (vs.set j yv))) (.obj true c' fs (xs.set j y)) gq fy rfl w2 k1 k2 fun H' e hs => by
          simp only [Rep]
          exact ⟨a, dx, _, _, rfl, e, by simp [l], k3.mono (BLe.refl _) hs, rfl⟩
        exact ok σ B2 _ F' gg
    · cases eo
  · cases eo
end
end VI
set_option Elab.async false
set_option linter.all false
set_option maxRecDepth 100000
set_option autoImplicit false
namespace VI
open PySem L2
section
variable {X : Cx} {cl : Tb} {mu : List Nat} {e o k : Expr} {es : List Expr} {me mk : Ev → Option D} {pos pos' : Pos} {p : Pl}
def putO {κ : Type} [DecidableEq κ] (ks : List κ) (xs : List D) (k : κ) (d : D) : Option (List κ × List D) := match ks.idxOf? k with
  | some j => if ks.Nodup then some (ks, xs.set j d) else none
  | none => some (ks ++ [k], xs ++ [d])
def putKey (x k y : D) : Option D := match x with
  | .lst true xs => (match k with
    | .int i => (ixN xs.length i).map fun j => .lst true (xs.set j y)
    | _ => none)
  | .dct true ks xs => (keyD k).bind fun k => if ks.length < 1000000 then (putO ks xs k y).map fun r => .dct true r.1 r.2 else none
  | .dtt true ks xs => (match k with
    | .tup kk => (keysD kk).bind fun k => if ks.length < 1000000 then (putO ks xs k y).map fun r => .dtt true r.1 r.2 else none
    | _ => none)
  | _ => none
def sPut (p : Pl) (mk me : Ev → Option D) : SM := fun A => (me A).bind fun y => (p A).bind fun z => (mk A).bind fun k => (putKey z.2.2 k y).map fun d => .nx (updP A z.1 z.2.1 d)
end
end VI
set_option Elab.async false
set_option linter.all false
set_option maxRecDepth 100000
set_option autoImplicit false
namespace VI
open PySem L2
section
variable {K : PySem.W.Frag} {cl : Tb} {G : GS} {B H B' H' : Hp} {σ σ' : St} {A A' : Ev} {F F' : Nat → List Addr} {d e0 : D} {ds xs : List D} {v u : V} {vs : List V} {fp : List Addr}
theorem goodL {cl : Nat → Addr} {q : Nat} {f : List Addr} (s : BLe B H) (hl : ds.length = vs.length) (hq : vs[q]? = some u) (hd : ds[q]? = some e0) (r : Rep K cl B H e0 u f) (nd : f.Nodup) (nb : ∀ a ∈ f, B a = none) (t : TabC cl H)
    (ho : ∀ j d, j ≠ q → ds[j]? = some d → ∃ v, vs[j]? = some v ∧ Rep K cl B H d v []) : Good K (tb cl) (gs0 H B f [q] vs) B H (vs.map some) (ds.map some) (fun j => if j = q then f else []) where
  sub := s
  len := by simp [hl]
  at_ := fun j d e => by
    rw [List.getElem?_map] at e
    by_cases h : j = q
    · subst h
      rw [hd] at e; cases e
      rw [if_pos rfl]
      exact ⟨u, by rw [List.getElem?_map, hq]; rfl, r⟩
    · rw [if_neg h]
      cases hx : ds[j]? with
      | none => rw [hx] at e; cases e
      | some d' =>
        rw [hx] at e; cases e
        obtain ⟨w, h1, h2⟩ := ho j _ h hx
        exact ⟨w, by rw [List.getElem?_map, h1]; rfl, h2⟩
  emp := fun j h => by
    by_cases hj : j = q
    · subst hj; exact absurd (by rw [List.getElem?_map, hd]; rfl) (h e0)
    · exact if_neg hj
  nd := fun j => by
    by_cases hj : j = q
    · rw [if_pos hj]; exact nd
    · rw [if_neg hj]; exact List.nodup_nil
  dis := fun j k hjk a z => by
    by_cases hj : j = q
    · rw [if_neg (fun e => hjk (hj.trans e.symm))]; exact fun z => nomatch z
    · rw [if_neg hj] at z; cases z
  nb := fun j a z => by
    by_cases hj : j = q
    · rw [if_pos hj] at z; exact nb a z
    · rw [if_neg hj] at z; cases z
  le0 := BEx.refl B
  fr := fun a o _ e _ => .inl e
  tk := TKC.refl t
  own := fun j a z => by
    by_cases hj : j = q
    · rw [if_pos hj] at z; exact .inl z
    · rw [if_neg hj] at z; cases z
  bnew := fun a e => .inl e
  keep := fun p hp => by
    simp only [gs0, List.filterMap_cons, hq, Option.map_some, List.filterMap_nil, List.mem_singleton] at hp
    subst hp
    show (vs.map some)[q]? = some (some u)
    rw [List.getElem?_map, hq]; rfl
  lkd := fun _ z => nomatch z
  hx := fun _ z => nomatch z
end
section
variable {X : Cx} {cl : Tb} {mu : List Nat} {k n : Nat} {f C : Addr} {fd : FuncData} {ps ks : List Str} {src : List Src} {cs : List D} {cvs : List V} {x m : Str} {pos apos : Pos} {e o : Expr} {es : List Expr} {kws : List Keyword} {me : Ev → Option D} {ms mk : Ev → Option (List D)} {g : List D → Option (D × Ev)} {pl : Sem Bool} {p : Pl} {pn : Pos}
end
end VI
set_option Elab.async false
set_option linter.all false
set_option maxRecDepth 100000
set_option autoImplicit false
namespace VI
open PySem L2
section
variable {X : Cx} {cl : Tb} {mu : List Nat} {k n : Nat} {f C : Addr} {fd : FuncData} {ps ks : List Str} {x m : Str} {pos apos : Pos} {e o : Expr} {es : List Expr} {ms : Ev → Option (List D)} {g : List D → Option (D × Ev)} {pn : Pos}
end
end VI
set_option Elab.async false
set_option linter.all false
set_option maxRecDepth 100000
set_option autoImplicit false
namespace VI
open PySem PyProof.Rows L2
open Sem (wp)
section
variable {prog : Program} {w : World} {A : Around} {E : Value → Shared → Prop} {s : Shared}
end
section
variable {X : Cx} {cl : Tb} {e : Expr} {p p2 pos pos2 : Pos} {te : TE} {me : Ev → Option D}
end
end VI
set_option Elab.async false
set_option linter.all false
set_option maxRecDepth 100000
set_option autoImplicit false
namespace VI
open PySem L2
section
variable {X : Cx} {cl : Tb} {mu : List Nat} {e o a b : Expr} {es rest : List Expr} {x : Str} {me : Ev → Option D} {pos p pos' : Pos}
theorem ev_gint {i : Int} (hg : Gl X x) (hm : ∃ t, X.mg x = some (.int i t)) (hdb : (x == ("__debug__" : Str)) = false := by decide) : EvD X cl (.Name x pos) (mC (.int i)) := by
  obtain ⟨t, hm⟩ := hm
  exact ev_const (v := .int i) (pe_glob hg hm ⟨t, rfl⟩ hdb) fun B H _ => by simp only [Rep]; exact ⟨trivial, trivial⟩
def tyD : D → Option String
  | .non => some "NoneType"
  | .bl _ => some "bool"
  | .int _ => some "int"
  | .str _ => some "str"
  | .tup _ => some "tuple"
  | .lst _ _ => some "list"
  | .dct _ _ _ => some "dict"
  | .dtt _ _ _ => some "dict"
  | _ => none
def mIsi (T : String) (me : Ev → Option D) : Ev → Option D := fun A => (me A).bind fun d => (tyD d).bind fun n => (kitB n T).map .bl
def TyW (K : PySem.W.Frag) (H : Hp) (x : V) (t : Value) : Prop := TyX K H x t ∨ ∃ (a : Addr) (o : Obj) (kvs : List (List Key × V)), x = .ref a ∧ t = .type "dict" ∧ H a = some (.frz o (.dT kvs))
theorem call_isiW : CallR X (.builtin "isinstance") (fun xs H Q => ∃ (x c : V) (t u : Value) (b : Bool), xs = [x, c] ∧ ClsV c u ∧ TyW X.K H x t ∧ PySem.W.kitOne X.K t u = some b ∧ Q (.bl b) H) := by
  intro pins s σ H xs us Q I rx ⟨x, c, t, u, b, he, k, ty, hb, q⟩
  rcases ty with ty | ⟨a, o, kvs, hx, ht, hf⟩
  · exact call_isi pins s σ H xs us Q I rx ⟨x, c, t, u, b, he, k, ty, hb, q⟩
  subst he hx ht
  obtain ⟨u1, u2, hu, r1, r2⟩ := vals2 rx
  subst hu
  have e2 := k.eq r2
  subst e2
  obtain rfl : u1 = Value.ref a := r1
  obtain ⟨_, _, _, ks, _, ob, es, ep, g1, g2, _⟩ := (show ObjOk X.prog X.w H s.heap a (.frz o (.dT kvs)) from I.hok a _ hf)
  exact PySem.W.kia_one (PySem.W.kitx_dict (a := a)) I.kIn ⟨ob, g1, g2.1⟩ hb (fun z => nomatch z) fun tk => ⟨.bl b, H, I.tok tk, rfl, q⟩
theorem ty_of {cl : Nat → Addr} {K : PySem.W.Frag} {B H : Hp} {d : D} {v : V} {fp : List Addr} {n : String} (s : BLe B H) (r : Rep K cl B H d v fp) (h : tyD d = some n) : TyW K H v (.type n) := by
  unfold tyD at h
  split at h <;> cases h
  · rw [rep_non_iff] at r; rw [r.1]; exact .inl (.base .non)
  · rw [rep_bl_iff] at r; rw [r.1]; exact .inl (.base (.bl _))
  · rw [rep_int_iff] at r; rw [r.1]; exact .inl (.base (.int _))
  · rw [rep_str_iff] at r; rw [r.1]; exact .inl (.base (.str _))
  · obtain ⟨a, vs, e1, q1, _⟩ := r.tup_view s; subst e1; exact .inl (.base (.tup q1))
  · obtain ⟨a, vs, fq, e1, q1, _⟩ := r.lst_view s; subst e1; exact .inl (.base (.lst q1))
  · obtain ⟨a, vs, fq, e1, q1, _⟩ := r.dct_view s; subst e1
    rcases q1 with q | ⟨o, q⟩
    · exact .inl (.base (.dK q))
    · exact .inl (.fDict q)
  · obtain ⟨a, vs, fq, e1, q1, _⟩ := r.dtt_view s; subst e1
    rcases q1 with q | ⟨o, q⟩
    · exact .inl (.base (.dT q))
    · exact .inr ⟨a, o, _, rfl, rfl, q⟩
theorem ev_isi {T : String} {y : Str} {q : Pos} (hg : Gl X "isinstance") (hm : X.mg "isinstance" = none) (hv : bootBuiltins "isinstance" = some (.builtin "isinstance")) (hg2 : Gl X y) (hm2 : X.mg y = none) (hv2 : bootBuiltins y = some (.type T)) (he : EvV X cl e me)
    (hy : (y == ("__debug__" : Str)) = false := by decide) (hn : y ≠ "__name__" := by decide)
    (hs : starEach [e, .Name y q] X.env = (false, eval e X.env) :: starEach [.Name y q] X.env := by rfl) (hs2 : starEach [.Name y q] X.env = (false, eval (.Name y q) X.env) :: starEach [] X.env := by rfl) (hpl : (backTo pos (starEach [.Name y q] X.env)).any (·.1) = false := by rfl) :
    EvD X cl (.Call (.Name "isinstance" p) [e, .Name y q] [] pos) (mIsi T me) := by
  obtain ⟨t, pe, r⟩ := he
  refine ⟨_, pe_callB call_isiW hg hm hv (pa_cons pe (pa_cons (pe_bltn (v := .ty T) hg2 hm2 hv2 rfl hn hy) pa_nil hs2) hs) (he := hs), fun σ A B H R d hd Q k => ?_⟩
  unfold mIsi at hd
  simp only [Option.bind_eq_some_iff, Option.map_eq_some_iff] at hd
  obtain ⟨x, hx, n, hn, c, hc, rfl⟩ := hd
  refine r σ A B H R x hx _ fun v B1 H1 f1 n1 rp => ?_
  exact ⟨v, .ty T, _, _, c, rfl, .ty T, ty_of n1.sub rp hn, kit_ty hc, k _ B1 H1 [] n1 rep_bl Fresh.nil⟩
def VT (X : Cx) (cl : Tb) (mu : List Nat) (e : Expr) (m : Ev → Option (Bool × Ev)) : Prop := ∃ t : TT, PT X e t ∧ ∀ (G : GS) σ A B H F, (∀ p ∈ G.kp, p.1 ∈ mu) → Good X.K cl G B H σ A F → ∀ b A', m A = some (b, A') →
  ∀ Q : Bool → Hp → Prop, (∀ B' H' F', Good X.K cl G B' H' σ A' F' → Q b H') → t σ H Q
def VW (X : Cx) (cl : Tb) (mu : List Nat) (e : Expr) (m : Ev → Option (Bool × Ev)) : Prop := ∃ t : TT, PW X e t ∧ ∀ (G : GS) σ A B H F, (∀ p ∈ G.kp, p.1 ∈ mu) → Good X.K cl G B H σ A F → ∀ b A', m A = some (b, A') →
  ∀ Q : Bool → Hp → Prop, (∀ B' H' F', Good X.K cl G B' H' σ A' F' → Q b H') → t σ H Q
variable {m m1 m2 : Ev → Option (D × Ev)} {t1 t2 : Ev → Option (Bool × Ev)} {mt : Ev → Option Bool} {s1 s2 : SM} {body orelse : List Stmt}
theorem VT.of (h : EvT X cl e mt) : VT X cl mu e (fun A => (mt A).map fun b => (b, A)) := by
  obtain ⟨t, pe, r⟩ := h
  refine ⟨t, pe, fun G σ A B H F hk g b A' hm Q q => ?_⟩
  simp only [Option.map_eq_some_iff, Prod.mk.injEq] at hm
  obtain ⟨b', h1, h2, h3⟩ := hm
  subst h2 h3
  exact r σ A B H g.renv _ h1 _ fun B' H' n => q B' H' F (g.news n)
theorem VW.t (h : VW X cl mu e t1) : VT X cl mu e t1 := by
  obtain ⟨t, pe, r⟩ := h
  exact ⟨t, pe.pt, r⟩
end
end VI
set_option Elab.async false
set_option linter.all false
set_option maxRecDepth 100000
set_option autoImplicit false
namespace VI
open PySem L2
section
variable {X : Cx} {cl : Tb} {mu : List Nat} {k n : Nat} {f C : Addr} {fd : FuncData} {ps ks : List Str} {x m : Str} {p pos apos : Pos} {e o : Expr} {es : List Expr} {me : Ev → Option D} {ms : Ev → Option (List D)} {g : List D → Option (D × Ev)} {pl : Sem Bool}
def mPos (g : List D → Option (D × Ev)) (ms : Ev → Option (List D)) : Ev → Option D := fun A => (ms A).bind fun ds => (g (D.frzL ds)).bind fun r => if D.plainL ds = true ∨ r.1.clean = true then some r.1 else none
theorem mPos_some {A : Ev} {d : D} (h : mPos g ms A = some d) : ∃ ds A', ms A = some ds ∧ g (D.frzL ds) = some (d, A') ∧ (D.plainL ds = true ∨ d.clean = true) := by
  unfold mPos at h
  simp only [Option.bind_eq_some_iff] at h
  obtain ⟨ds, h1, r, h3, h4⟩ := h
  split at h4
  · rename_i hc
    cases h4
    exact ⟨ds, r.2, h1, h3, hc⟩
  · cases h4
theorem ev_callP (F : FnOk X.prog X.w X.K X.mg X.base CX0 k f fd ps (SpF X.K cl [] ps.length g)) (hr : Room k X.A) (hg : Gl X x) (hm : X.mg x = some (.ref f)) (hk : PySem.W.keepIn X.K (.ref f) = true) (hb : Binds X.K fd ps []) (har : Ar ps.length g)
    (ha : EvA X cl (e :: es) ms) (hdb : (x == ("__debug__" : Str)) = false := by decide) (he : starEach (e :: es) X.env = (false, eval e X.env) :: starEach es X.env := by rfl) (hpl : (backTo pos (starEach es X.env)).any (·.1) = false := by rfl) :
    EvD X cl (.Call (.Name x p) (e :: es) [] pos) (mPos g ms) := by
  obtain ⟨t, pa, r⟩ := ha
  refine ⟨_, pe_call F hr hg hm hk hb .nil pass0 pa hdb he hpl, fun σ A B H R d h Q q => ?_⟩
  obtain ⟨ds, A', h1, h3, h4⟩ := mPos_some h
  refine r σ A B H R ds h1 _ fun vs B1 H1 f1 n1 q1 => ?_
  rw [List.append_nil]
  exact call_pure (R.tab.tk n1.ex.toTK) n1.sub q1 (by rw [← D.frzL_length]; exact har _ _ h3) h3 h4 fun v B3 H3 fq n3 r3 f3 => q v B3 H3 fq (n1.trans n3) r3 (fresh_trans n1 f3)
theorem ev_methP0 {c : Nat} (hC : Cls X.K (cl c)) (hM : Meth X.K (cl c) m f) (F : FnOk X.prog X.w X.K X.mg X.base CX0 k f fd ps (SpF X.K cl [] ps.length g)) (hr : Room k X.A) (hb : Binds X.K fd ps []) (har : Ar ps.length g) (ho : EvV X cl o me)
    (ht : eval (.Call (.Attribute o m apos) [] [] pos) X.env = (do
      let ov ← eval o X.env
      standAt apos.atName
      let (f, first) ← holding [ov] (getMethod ov m pl)
      callWith pos f first (backTo pos (starEach [] X.env)) (backToKw pos (keywordEach [] X.env))) := by rfl) :
    EvD X cl (.Call (.Attribute o m apos) [] [] pos) (mPos g (mRecv c m me mNil)) := by
  obtain ⟨t0, p0, r0⟩ := ho
  refine ⟨_, pe_meth0 p0 hC hM F hr hb .nil pass0 ht, fun σ A B H R d h Q q => ?_⟩
  obtain ⟨ds, A', h1, h3, h4⟩ := mPos_some h
  unfold mRecv at h1
  simp only [Option.bind_eq_some_iff] at h1
  obtain ⟨d0, h1, h5⟩ := h1
  split at h5
  · rename_i hio
    simp only [mNil, Option.map_some] at h5
    cases h5
    refine r0 σ A B H R d0 h1 _ fun v0 B0 H0 f0 n0 q0 => ?_
    obtain ⟨a, dx, fs, e1, e2, e3⟩ := isObj_view hio n0.sub q0
    refine ⟨a, dx, fs, e1, e2, e3, ?_⟩
    exact call_pure (E := E0) (R.tab.tk n0.ex.toTK) n0.sub (repL_cons q0 repL_nil) (by rw [← D.frzL_length]; exact har _ _ h3) h3 h4 fun v B3 H3 fq n3 r3 f3 => q v B3 H3 fq (n0.trans n3) r3 (fresh_trans n0 f3)
  · cases h5
end
section
variable {X : Cx} {cl : Tb} {tg e : Expr} {me : Ev → Option D}
def items' : D → Option (List D)
  | .lst _ xs => some xs
  | .tup xs => some xs
  | .ktup xs => some xs
  | .str x => some (signs x)
  | _ => none
def mItems' (m : Ev → Option D) : Ev → Option (List D) := fun A => (m A).bind fun d => items' d.frz
theorem vi_any (h : EvD X cl e me) : VI_ X cl tg e (mItems' me) := by
  obtain ⟨w1, p1, r1⟩ := vi_seq (tg := tg) h
  obtain ⟨w2, p2, r2⟩ := vi_str (tg := tg) h.v
  refine ⟨_, PI.or p1 p2, fun σ A B H R0 ds hd R q => ?_⟩
  unfold mItems' at hd
  simp only [Option.bind_eq_some_iff] at hd
  obtain ⟨d, h1, h2⟩ := hd
  cases d <;> simp only [D.frz, items'] at h2 <;> try (cases h2; done)
  case str x =>
    refine .inr (r2 σ A B H R0 ds ?_ R q)
    unfold mSigns
    rw [h1]; exact h2
  all_goals
    refine .inl (r1 σ A B H R0 ds ?_ R q)
    unfold mItems
    rw [h1]
    simp only [Option.bind_some, D.frz, items]
    exact h2
end
end VI
set_option Elab.async false
set_option linter.all false
set_option maxRecDepth 100000
set_option autoImplicit false
namespace VI
open PySem L2
section
variable {X : Cx} {cl : Tb} {e o f : Expr} {mo mk mf : Ev → Option D} {apos cpos : Pos}
def getD1 (x k : D) : Option (Option D) := match x with
  | .dct _ ks xs => (keyD k).map fun k => look ks xs k
  | .dtt _ ks xs => (match k with
    | .tup kk => (keysD kk).map fun k => look ks xs k
    | _ => none)
  | _ => none
def mGet1 (mo mk : Ev → Option D) : Ev → Option D := fun A => (mo A).bind fun x => (mk A).bind fun k => (getD1 x k).map fun r => r.getD .non
end
end VI
set_option Elab.async false
set_option linter.all false
set_option maxRecDepth 100000
set_option autoImplicit false
namespace VI
open PySem L2
section
variable {K : PySem.W.Frag} {cl : Tb} {G : GS} {B H B' H' : Hp} {σ σ' : St} {A A' : Ev} {F F' : Nat → List Addr}
def dicty : HO → Bool
  | .dK _ => true
  | .dT _ => true
  | _ => false
def GS.lock (G : GS) (a : Addr) (od : Obj) (u : HO) : GS := { G with lk := (a, od, u) :: G.lk }
theorem BLe.lock {a : Addr} {od : Obj} {u : HO} (s : BLe B H) (hu : dicty u = true) (h : H a = some u) : BLe B (upd H a (.frz od u)) := by
  refine ⟨⟨fun p w r => ?_, fun p C dx fs e => ?_, fun p vs e => ?_, fun p vs e => ?_, fun p l e => ?_⟩, s.nt⟩
  · by_cases hp : p = a
    · subst hp
      rcases s.rd p w r with q | ⟨o, q⟩
      · rw [h] at q; cases q; exact .inr ⟨od, upd_same⟩
      · rw [h] at q; cases q; cases hu
    · rcases s.rd p w r with q | ⟨o, q⟩
      · exact .inl (by rw [upd_ne hp]; exact q)
      · exact .inr ⟨o, by rw [upd_ne hp]; exact q⟩
  · have q := s.ins _ _ _ _ e
    rw [upd_ne (fun hp => by rw [hp, h] at q; cases q; cases hu)]; exact q
  · have q := s.lst _ _ e
    rw [upd_ne (fun hp => by rw [hp, h] at q; cases q; cases hu)]; exact q
  · have q := s.tup _ _ e
    rw [upd_ne (fun hp => by rw [hp, h] at q; cases q; cases hu)]; exact q
  · have q := s.xd _ _ e
    rw [upd_ne (fun hp => by rw [hp, h] at q; cases q; cases hu)]; exact q
theorem Good.lock {a : Addr} {od : Obj} {u : HO} (g : Good K cl G B H σ A F) (hu : dicty u = true) (hB : B a ≠ none) (h : H a = some u) : Good K cl (G.lock a od u) B (upd H a (.frz od u)) σ A F where
  sub := g.sub.lock hu h
  len := g.len
  at_ := fun i d e => by
    obtain ⟨v, h1, h2⟩ := g.at_ i d e
    exact ⟨v, h1, h2.mono (BLe.refl B) fun b z => upd_ne fun e2 => hB (e2 ▸ g.nb i b z)⟩
  emp := g.emp
  nd := g.nd
  dis := g.dis
  nb := g.nb
  le0 := g.le0
  tk := g.tk.trans (TK.at_upd (fun ps z => by rw [h] at z; cases z; cases hu) (fun φ z => by rw [h] at z; cases z; cases hu))
  fr := fun b o nt e hs => by
    rcases g.fr b o nt e hs with q | ⟨p, hp, e1, e2⟩
    · by_cases hb : b = a
      · subst hb
        rw [h] at q; cases q
        exact .inr ⟨(b, od, u), List.mem_cons_self .., rfl, rfl⟩
      · exact .inl (by rw [upd_ne hb]; exact q)
    · exact .inr ⟨p, List.mem_cons_of_mem _ hp, e1, e2⟩
  own := g.own
  bnew := g.bnew
  keep := g.keep
  lkd := fun p hp => by
    rcases List.mem_cons.mp hp with e | hp
    · subst e; exact upd_same
    · have q := g.lkd p hp
      rw [upd_ne (fun e => by rw [e, h] at q; cases q; cases hu)]; exact q
  hx := g.hx
theorem Good.unlock {a : Addr} {od : Obj} {u : HO} (g0 : Good K cl G B H σ A F) (hu : dicty u = true) (hB : B a = some u) (h : H a = some u) (g : Good K cl (G.lock a od u) B' H' σ' A' F') (hBB : BEx B B') : Good K cl G B' (upd H' a u) σ' A' F' where
  sub := by
    have hB' : B' a = some u := hBB _ _ hB
    have hH' : H' a = some (.frz od u) := g.lkd (a, od, u) (List.mem_cons_self ..)
    refine ⟨⟨fun p w r => ?_, fun p C dx fs e => ?_, fun p vs e => ?_, fun p vs e => ?_, fun p l e => ?_⟩, g.sub.nt⟩
    · by_cases hp : p = a
      · subst hp
        rcases r with r | ⟨o, r⟩
        · rw [hB'] at r; cases r; exact .inl upd_same
        · rw [hB'] at r; cases r; cases hu
      · rcases g.sub.rd p w r with q | ⟨o, q⟩
        · exact .inl (by rw [upd_ne hp]; exact q)
        · exact .inr ⟨o, by rw [upd_ne hp]; exact q⟩
    · rw [upd_ne (fun hp => by rw [hp, hB'] at e; cases e; cases hu)]; exact g.sub.ins _ _ _ _ e
    · rw [upd_ne (fun hp => by rw [hp, hB'] at e; cases e; cases hu)]; exact g.sub.lst _ _ e
    · rw [upd_ne (fun hp => by rw [hp, hB'] at e; cases e; cases hu)]; exact g.sub.tup _ _ e
    · rw [upd_ne (fun hp => by rw [hp, hB'] at e; cases e; cases hu)]; exact g.sub.xd _ _ e
  len := g.len
  at_ := fun i d e => by
    obtain ⟨v, h1, h2⟩ := g.at_ i d e
    exact ⟨v, h1, h2.mono (BLe.refl B') fun b z => upd_ne fun e2 => by have := g.nb i b z; rw [e2, hBB _ _ hB] at this; cases this⟩
  emp := g.emp
  nd := g.nd
  dis := g.dis
  nb := g.nb
  le0 := g.le0
  tk := by
    have hH' : H' a = some (.frz od u) := g.lkd (a, od, u) (List.mem_cons_self ..)
    exact (show TKC cl G.H0 H' from g.tk).trans (TK.at_upd (fun ps z => by rw [hH'] at z; cases z) (fun φ z => by rw [hH'] at z; cases z))
  fr := fun b o nt e hs => by
    by_cases hb : b = a
    · subst hb
      rcases g0.fr b o nt e hs with q | ⟨p, hp, e1, e2⟩
      · rw [h] at q; cases q; exact .inl upd_same
      · have q := g0.lkd p hp; rw [e1, h] at q; cases q; cases hu
    · rcases g.fr b o nt e hs with q | ⟨p, hp, e1, e2⟩
      · exact .inl (by rw [upd_ne hb]; exact q)
      · rcases List.mem_cons.mp hp with z | hp
        · subst z; exact absurd e1.symm hb
        · exact .inr ⟨p, hp, e1, e2⟩
  own := g.own
  bnew := g.bnew
  keep := g.keep
  lkd := fun p hp => by
    have q := g.lkd p (List.mem_cons_of_mem _ hp)
    have q0 := g0.lkd p hp
    rw [upd_ne (fun e => by rw [e, h] at q0; cases q0; cases hu)]; exact q
  hx := g.hx
theorem Good.hold {a : Addr} {od : Obj} {u : HO} (g : Good K cl G B H σ A F) (h : H a = some (.frz od u)) : Good K cl (G.lock a od u) B H σ A F :=
  ⟨g.sub, g.len, g.at_, g.emp, g.nd, g.dis, g.nb, g.le0, fun b o nt e hs => (g.fr b o nt e hs).imp id fun ⟨p, hp, e1, e2⟩ => ⟨p, List.mem_cons_of_mem _ hp, e1, e2⟩, g.tk, g.own, g.bnew, g.keep, fun p hp => by
    rcases List.mem_cons.mp hp with e | hp
    · subst e; exact h
    · exact g.lkd p hp, g.hx⟩
theorem Good.unhold {a : Addr} {od : Obj} {u : HO} (g0 : Good K cl G B H σ A F) (h : H a = some (.frz od u)) (g : Good K cl (G.lock a od u) B' H' σ' A' F') : Good K cl G B' H' σ' A' F' :=
  ⟨g.sub, g.len, g.at_, g.emp, g.nd, g.dis, g.nb, g.le0, fun b o nt e hs => by
    rcases g.fr b o nt e hs with q | ⟨p, hp, e1, e2⟩
    · exact .inl q
    · rcases List.mem_cons.mp hp with z | hp
      · subst z
        have hH' : H' a = some (.frz od u) := g.lkd (a, od, u) (List.mem_cons_self ..)
        have e1 : a = b := e1
        subst e1
        rcases g0.fr a o nt e hs with q | ⟨p, hp, e3, e4⟩
        · rw [h] at q; cases q; exact .inl hH'
        · exact .inr ⟨p, hp, e3, e4⟩
      · exact .inr ⟨p, hp, e1, e2⟩, g.tk, g.own, g.bnew, g.keep, fun p hp => g.lkd p (List.mem_cons_of_mem _ hp), g.hx⟩
end
section
variable {X : Cx} {cl : Tb} {mu : List Nat} {e tg : Expr} {m : Ev → Option D} {pos : Pos}
def EvR (X : Cx) (cl : Tb) (e : Expr) (m : Ev → Option D) : Prop := ∃ (t : TE) (val : St → Hp → Option V), PE X e t ∧
  (∀ σ H H' v, (∀ a C dx fs, H a = some (.ins C dx fs) → H' a = some (.ins C dx fs)) → (∀ a vs, H a = some (.lst vs) → H' a = some (.lst vs)) → val σ H = some v → val σ H' = some v) ∧
  (∀ σ A B H, REnv X.K cl B H σ A → ∀ d, m A = some d → ∃ v fp, val σ H = some v ∧ Rep X.K cl B H d v fp ∧ ∀ Q : VK, Q v H → t σ H Q)
theorem er_var {i : Nat} (h : PE X e (tVar i)) : EvR X cl e (mV i) := by
  refine ⟨_, fun σ _ => σ[i]?.join, h, fun σ H H' v _ _ hv => hv, fun σ A B H R d hd => ?_⟩
  obtain ⟨v, fp, e1, r⟩ := R.at_ i d (by
    unfold mV at hd
    cases q : A[i]? with
    | none => rw [q] at hd; cases hd
    | some o => rw [q] at hd; cases o with
      | none => cases hd
      | some d' => cases hd; rfl)
  exact ⟨v, fp, by show σ[i]?.join = some v; rw [e1]; rfl, r, fun Q q => ⟨v, e1, q⟩⟩
theorem er_fld {c : Nat} {f : Str} (hC : Cls X.K (cl c)) (hN : NoAttr X.K (cl c) f) (h : EvR X cl e m) (hb : attributeBase e f X.env (eval e X.env) = eval e X.env := by rfl) : EvR X cl (.Attribute e f pos) (mFld c f m) := by
  obtain ⟨t, val, p, h1, h2⟩ := h
  refine ⟨_, fun σ H => (val σ H).bind fun v => match v with | .ref a => (match H a with | some (.ins C dx fs) => fs.lookup f | _ => none) | _ => none, pe_fld p hb, fun σ H H' v hs hsl hv => ?_, fun σ A B H R d hd => ?_⟩
  · simp only [Option.bind_eq_some_iff] at hv ⊢
    obtain ⟨w, e1, e2⟩ := hv
    refine ⟨w, h1 σ H H' w hs hsl e1, ?_⟩
    cases w <;> simp only at e2 ⊢ <;> try (cases e2; done)
    rename_i a
    split at e2
    · rename_i C dx fs hh
      rw [hs _ _ _ _ hh]; exact e2
    · cases e2
  · unfold mFld at hd
    split at hd
    · rename_i mm c' fs xs hm
      by_cases hc : c' = c
      · rw [if_pos hc] at hd
        subst hc
        obtain ⟨v, fp, e1, rp, e2⟩ := h2 σ A B H R _ hm
        obtain ⟨a, dx, vs, fq, e3, q1, l, q2⟩ := rp.obj_view R.sub
        obtain ⟨w, f', k1, k2, _⟩ := zip_fld l q2 hd
        subst e3
        exact ⟨w, f', by simp only [e1, Option.bind_some, q1]; exact k1, k2, fun Q q => e2 _ ⟨a, _, dx, _, w, rfl, q1, hC, hN, k1, q⟩⟩
      · rw [if_neg hc] at hd; cases hd
    · cases hd
def keyV : Key → D
  | .inl i => .int i
  | .inr s => .str s
theorem rep_key {cl : Nat → Addr} {K : PySem.W.Frag} {B H : Hp} {k : Key} : Rep K cl B H (keyV k) (kV k) [] := by
  cases k
  · exact rep_int
  · exact rep_str
theorem repL_key {cl : Nat → Addr} {K : PySem.W.Frag} {B H : Hp} : ∀ {ks : List Key}, RepL K cl B H (ks.map keyV) (ks.map kV) []
  | [] => repL_nil
  | k :: ks => repL_cons (f := []) (g := []) rep_key repL_key
def keysOf : D → Option (List D)
  | .dct false ks _ => some (ks.map keyV)
  | .dtt false ks _ => some (ks.map fun k => .tup (k.map keyV))
  | _ => none
theorem New.tell {B H : Hp} {q : Addr} {us : List V} (s : BLe B H) (h : H q = some (.tup us)) : New B H (upd B q (.tup us)) H := by
  have hnt : ∀ a ps, ¬ Rd (upd B q (.tup us)) a (.tbl ps) := fun a ps r => by
    by_cases ha : a = q
    · subst ha
      rcases r with r | ⟨w, r⟩ <;> rw [upd_same] at r <;> cases r
    · exact s.nt a ps (by rcases r with r | ⟨w, r⟩ <;> rw [upd_ne ha] at r; exact .inl r; exact .inr ⟨w, r⟩)
  refine ⟨HEx.refl H, fun a u e => ?_, ⟨⟨fun a w r => ?_, fun a C dx fs e => ?_, fun a vs e => ?_, fun a vs e => ?_, fun a l e => ?_⟩, hnt⟩, fun a e => ?_⟩
  · by_cases ha : a = q
    · subst ha
      rcases s.rd a u (.inl e) with r | ⟨o, r⟩
      · rw [h] at r; cases r; exact upd_same
      · rw [h] at r; cases r
    · rw [upd_ne ha]; exact e
  · by_cases ha : a = q
    · subst ha
      have e1 : upd B a (.tup us) a = some (.tup us) := upd_same
      rcases r with r | ⟨o, r⟩
      · rw [e1] at r; cases r; exact .inl h
      · rw [e1] at r; cases r
    · exact s.rd a w (by rcases r with r | ⟨o, r⟩ <;> rw [upd_ne ha] at r; exact .inl r; exact .inr ⟨o, r⟩)
  · by_cases ha : a = q
    · subst ha; rw [upd_same] at e; cases e
    · rw [upd_ne ha] at e; exact s.ins _ _ _ _ e
  · by_cases ha : a = q
    · subst ha; rw [upd_same] at e; cases e
    · rw [upd_ne ha] at e; exact s.lst _ _ e
  · by_cases ha : a = q
    · subst ha; rw [upd_same] at e; cases e; exact h
    · rw [upd_ne ha] at e; exact s.tup _ _ e
  · by_cases ha : a = q
    · subst ha; rw [upd_same] at e; cases e
    · rw [upd_ne ha] at e; exact s.xd _ _ e
  · by_cases ha : a = q
    · exact .inr (.inr ⟨us, ha ▸ h⟩)
    · rw [upd_ne ha] at e; exact .inl e
structure ItOkL (K : PySem.W.Frag) (cl : Tb) (J : It) (ds : List D) (B : Hp) (L : Hp → Prop) : Prop where
  go : ∀ B' H, BLe0 B B' → BLe B' H → L H → ∀ (i : Nat) (d : D), ds[i]? = some d → J.go i H ∧ ∀ x H', J.yld i H x H' → ∃ B'', New B' H B'' H' ∧ Rep K cl B'' H' d x []
  stop : ∀ B' H, BLe0 B B' → BLe B' H → L H → ∀ i, ds.length ≤ i → J.stop i H
theorem it_keys {K : PySem.W.Frag} {B : Hp} {a : Addr} {od : Obj} {ks : List Key} {vs : List V} (hl : ks.length = vs.length) : ItOkL K cl (Itk a od (ks.zip vs)) (ks.map keyV) B (fun H => H a = some (.frz od (.dK (ks.zip vs)))) where
  go := fun B' H le s hL i d hd => by
    rw [List.getElem?_map] at hd
    cases hk : ks[i]? with
    | none => rw [hk] at hd; cases hd
    | some k =>
      rw [hk] at hd; cases hd
      have hlt := (List.getElem?_eq_some_iff.mp hk).1
      refine ⟨⟨hL, by rw [List.length_zip]; omega⟩, fun x H' y => ?_⟩
      obtain ⟨e, k', v', e1, e2⟩ := y
      subst e e2
      have e3 := List.getElem?_zip_eq_some.mp e1
      rw [hk] at e3; cases e3.1
      exact ⟨B', New.refl s, rep_key⟩
  stop := fun B' H le s hL i hi => ⟨hL, by rw [List.length_zip]; simp at hi; omega⟩
theorem it_keysT {K : PySem.W.Frag} {B : Hp} {a : Addr} {od : Obj} {ks : List (List Key)} {vs : List V} (hl : ks.length = vs.length) : ItOkL K cl (Itkt a od (ks.zip vs)) (ks.map fun k => D.tup (k.map keyV)) B (fun H => H a = some (.frz od (.dT (ks.zip vs)))) where
  go := fun B' H le s hL i d hd => by
    rw [List.getElem?_map] at hd
    cases hk : ks[i]? with
    | none => rw [hk] at hd; cases hd
    | some k =>
      rw [hk] at hd; cases hd
      have hlt := (List.getElem?_eq_some_iff.mp hk).1
      refine ⟨⟨hL, by rw [List.length_zip]; omega⟩, fun x H' y => ?_⟩
      obtain ⟨e, k', v', q, e1, e2, e4⟩ := y
      subst e e2
      have e3 := List.getElem?_zip_eq_some.mp e1
      have e5 : k = k' := by rw [hk] at e3; exact Option.some.inj e3.1
      subst e5
      refine ⟨_, New.tell s e4, ?_⟩
      simp only [Rep]
      exact ⟨q, _, rfl, upd_same, repL_key⟩
  stop := fun B' H le s hL i hi => ⟨hL, by rw [List.length_zip]; simp at hi; omega⟩
theorem for_run {X : Cx} {cl : Tb} {mu : List Nat} {g : D → Ev → Option Ev} {mb : SM} {t2 : TG} {t3 : TS} {J : It} {ds : List D} {B0 H0 : Hp} {σ : St} {A : Ev} {F : Nat → List Addr} {G : GS} {L : Hp → Prop} {Dn : Ends} {out : SOut}
    (r2 : ∀ (G : GS) σ A B H F, (∀ p ∈ G.kp, p.1 ∈ mu) → Good X.K cl G B H σ A F → ∀ d v, Rep X.K cl B H d v [] → ∀ A', g d A = some A' → ∀ Q, (∀ σ' F', Good X.K cl G B H σ' A' F' → Q σ' H) → t2 v σ H Q)
    (r3 : ∀ (G : GS) σ A B H F, (∀ p ∈ G.kp, p.1 ∈ mu) → Good X.K cl G B H σ A F → ∀ out, mb A = some out → ∀ Dn, EndsOk X.K cl G Dn out → t3 Dn σ H)
    (hk : ∀ p ∈ G.kp, p.1 ∈ mu) (g1 : Good X.K cl G B0 H0 σ A F) (it : ItOkL X.K cl J ds B0 L) (hL : ∀ B H σ A F, Good X.K cl { G with B0 := B0 } B H σ A F → L H)
    (h2 : forL (fun d A => (g d A).bind mb) ds A = some out) (ok : EndsOk X.K cl G Dn out) :
    ∃ W : Nat → Nat → St → Hp → Prop, (∃ m, W 0 m σ H0) ∧ ∀ i m σ H, W i m σ H → (J.stop i H ∧ Dn.nx σ H) ∨ (J.go i H ∧ ∃ N : St → Hp → Prop, (∀ σ' H', N σ' H' → ∃ m', m' < m ∧ W (i + 1) m' σ' H') ∧ ∀ x H1, J.yld i H x H1 → t2 x σ H1 fun σ2 H2 => t3 { Dn with nx := N, ct := N, bk := Dn.nx } σ2 H2) := by
  refine ⟨fun i m σ' H' => m = ds.length - i ∧ i ≤ ds.length ∧ ∃ A' B' F', Good X.K cl { G with B0 := B0 } B' H' σ' A' F' ∧ forL (fun d A => (g d A).bind mb) (ds.drop i) A' = some out, ⟨ds.length, by simp, Nat.zero_le _, A, B0, F, g1.reB, h2⟩, ?_⟩
  rintro i m σ' H' ⟨rfl, hi, A', B', F', g2, run⟩
  by_cases hlt : i < ds.length
  · have hd : ds[i]? = some ds[i] := by simp [hlt]
    obtain ⟨go, yl⟩ := it.go B' H' g2.le0.le g2.sub (hL _ _ _ _ _ g2) i _ hd
    rw [List.drop_eq_getElem_cons hlt] at run
    refine .inr ⟨go, fun σ2 H2 => ∃ A2 B2 F2, Good X.K cl { G with B0 := B0 } B2 H2 σ2 A2 F2 ∧ forL (fun d A => (g d A).bind mb) (ds.drop (i + 1)) A2 = some out, ?_, ?_⟩
    · rintro σ2 H2 ⟨A2, B2, F2, g3, run2⟩
      exact ⟨ds.length - (i + 1), by omega, rfl, hlt, A2, B2, F2, g3, run2⟩
    · intro x H1 hy
      obtain ⟨B1, n1, rp⟩ := yl x H1 hy
      have g3 := g2.news n1
      rw [forL] at run
      cases hbd : (g ds[i] A').bind mb with
      | none => rw [hbd] at run; cases run
      | some o =>
        rw [hbd] at run
        simp only [Option.bind_eq_some_iff] at hbd
        obtain ⟨A1, k1, k2⟩ := hbd
        refine r2 { G with B0 := B0 } σ' A' B1 H1 F' hk g3 _ x rp A1 k1 _ fun σ2 F2 g4 => ?_
        refine r3 { G with B0 := B0 } σ2 A1 B1 H1 F2 hk g4 o k2 _ ?_
        cases o with
        | nx A2 => exact fun σ3 B3 H3 F3 g5 => ⟨A2, B3, F3, g5, run⟩
        | ct A2 => exact fun σ3 B3 H3 F3 g5 => ⟨A2, B3, F3, g5, run⟩
        | bk A2 => cases run; exact fun σ3 B3 H3 F3 g5 => ok σ3 B3 H3 F3 (g1.unB g5)
        | rt d A2 => cases run; exact fun σ3 B3 H3 F3 v fp g5 rp w => ok σ3 B3 H3 F3 v fp (g1.unB g5) rp ⟨w.nd, w.nb, w.own, w.dis⟩
        | xc c fs A2 => cases run; exact fun σ3 B3 H3 F3 d g5 fa => ok σ3 B3 H3 F3 d (g1.unB g5) fa
  · have e : i = ds.length := by omega
    subst e
    rw [List.drop_length] at run
    cases run
    exact .inl ⟨it.stop B' H' g2.le0.le g2.sub (hL _ _ _ _ _ g2) _ (Nat.le_refl _), ok σ' B' H' F' (g1.unB g2)⟩
variable {K : PySem.W.Frag} {G : GS} {B H : Hp} {σ : St} {A : Ev} {F : Nat → List Addr}
def LockOk (W : WX) : Prop := ∀ c d σ H (a : Addr) (od : Obj) (u : HO), H a = some (.frz od u) → W c d σ (upd H a u) → W c d σ H
theorem lockOk_true : LockOk (fun _ _ _ _ => True) := fun _ _ _ _ _ _ _ _ _ => trivial
theorem ends_lock {a : Addr} {od : Obj} {u : HO} {Dn : Ends} {out : SOut} (hlk : LockOk cl.W) (g0 : Good K cl G B H σ A F) (hu : dicty u = true) (hB : B a = some u) (h : H a = some u) (ok : EndsOk K cl G Dn out) :
    EndsOk K cl (({ G with B0 := B } : GS).lock a od u) ⟨fun σ' H' => H' a = some (.frz od u) ∧ Dn.nx σ' (upd H' a u), fun v H' => H' a = some (.frz od u) ∧ Dn.rt v (upd H' a u), fun σ' H' => H' a = some (.frz od u) ∧ Dn.bk σ' (upd H' a u), fun σ' H' => H' a = some (.frz od u) ∧ Dn.ct σ' (upd H' a u)⟩ out := by
  have key : ∀ {σ' : St} {B' H' : Hp} {A' : Ev} {F' : Nat → List Addr}, Good K cl (({ G with B0 := B } : GS).lock a od u) B' H' σ' A' F' → H' a = some (.frz od u) ∧ Good K cl G B' (upd H' a u) σ' A' F' := fun {σ' B' H' A' F'} g => by
    have q := g.lkd (a, od, u) (List.mem_cons_self ..)
    exact ⟨q, g0.unB (g0.reB.unlock hu hB h g g.le0)⟩
  cases out with
  | nx A' => exact fun σ' B' H' F' g => ⟨(key g).1, ok σ' B' _ F' (key g).2⟩
  | bk A' => exact fun σ' B' H' F' g => ⟨(key g).1, ok σ' B' _ F' (key g).2⟩
  | ct A' => exact fun σ' B' H' F' g => ⟨(key g).1, ok σ' B' _ F' (key g).2⟩
  | rt d A' => exact fun σ' B' H' F' v fp g rp w => ⟨(key g).1, ok σ' B' _ F' v fp (key g).2 (rp.mono (BLe.refl B') fun b z => upd_ne fun e => by have := w.nb b z; rw [e, g.le0 _ _ hB] at this; cases this) ⟨w.nd, w.nb, w.own, w.dis⟩⟩
  | xc c fs A' => exact fun σ' B' H' F' d g fa => hlk _ _ _ _ a od u (key g).1 (ok σ' B' _ F' d (key g).2 fa)
theorem ends_hold {a : Addr} {od : Obj} {u : HO} {Dn : Ends} {out : SOut} (g0 : Good K cl G B H σ A F) (h : H a = some (.frz od u)) (ok : EndsOk K cl G Dn out) : EndsOk K cl (({ G with B0 := B } : GS).lock a od u) Dn out := by
  have key : ∀ {σ' : St} {B' H' : Hp} {A' : Ev} {F' : Nat → List Addr}, Good K cl (({ G with B0 := B } : GS).lock a od u) B' H' σ' A' F' → Good K cl G B' H' σ' A' F' := fun {σ' B' H' A' F'} g => g0.unB (g0.reB.unhold h g)
  cases out with
  | nx A' => exact fun σ' B' H' F' g => ok σ' B' _ F' (key g)
  | bk A' => exact fun σ' B' H' F' g => ok σ' B' _ F' (key g)
  | ct A' => exact fun σ' B' H' F' g => ok σ' B' _ F' (key g)
  | rt d A' => exact fun σ' B' H' F' v fp g rp w => ok σ' B' _ F' v fp (key g) rp ⟨w.nd, w.nb, w.own, w.dis⟩
  | xc c fs A' => exact fun σ' B' H' F' d g fa => ok σ' B' _ F' d (key g) fa
def tForR (t2 : TG) (t3 : TS) (Dn : Ends) (σ : St) : It → Hp → Prop := fun J H0 =>
    ∃ W : Nat → Nat → St → Hp → Prop, (∃ m, W 0 m σ H0) ∧ ∀ i m σ H, W i m σ H → (J.stop i H ∧ Dn.nx σ H) ∨ (J.go i H ∧ ∃ N : St → Hp → Prop, (∀ σ' H', N σ' H' → ∃ m', m' < m ∧ W (i + 1) m' σ' H') ∧ ∀ x H1, J.yld i H x H1 → t2 x σ H1 fun σ2 H2 => t3 { Dn with nx := N, ct := N, bk := Dn.nx } σ2 H2)
theorem vs_forK {iter : Expr} {body : List Stmt} {g : D → Ev → Option Ev} {mb : SM} (hp : PassesOwn (model X.prog X.w) X.A X.env X.xe) (hc : X.calm = true) (hi : EvR X cl iter m) (hg : VG X cl mu tg g) (hb : VSs X cl mu body mb)
    (hs : ∀ x, foldedSetIterable iter X.env x = pure x := by intro _; rfl) (hlk : LockOk cl.W := by exact lockOk_true) : VS X cl mu (.For tg iter body [] pos) (sFor (fun A => (m A).bind keysOf) g mb) := by
  obtain ⟨t, val, p, h1, h2⟩ := hi
  obtain ⟨t2, p2, r2⟩ := hg
  obtain ⟨t3, p3, r3⟩ := hb
  refine ⟨_, PS.or (ps_lock (ps_for hp hc (pi_keys p) p2 p3 hs)) (ps_for hp hc (pi_keys p) p2 p3 hs), fun G σ A B H F hk g0 out eo Dn ok => ?_⟩
  unfold sFor at eo
  simp only [Option.bind_eq_some_iff] at eo
  obtain ⟨ds, ⟨d, hd, hds⟩, hrun⟩ := eo
  obtain ⟨v, fp, hv, rp, run⟩ := h2 σ A B H g0.renv d hd
  have main : ∀ (a : Addr) (u : HO) (J : Obj → It), v = .ref a → Rd B a u → dicty u = true →
      (∀ od (B0 : Hp), ItOkL X.K cl (J od) ds B0 (fun H => H a = some (.frz od u))) →
      (∀ (H1 : Hp) (R : It → Hp → Prop) (od : Obj), H1 a = some (.frz od u) → R (J od) H1 → ∃ dd o, V.ref a = .ref dd ∧ ((∃ kvs, H1 dd = some (.frz o (.dK kvs)) ∧ R (Itk dd o kvs) H1) ∨ ∃ kvs, H1 dd = some (.frz o (.dT kvs)) ∧ R (Itkt dd o kvs) H1)) →
      tLock (tFor (iKeys t) t2 t3) Dn σ H ∨ tFor (iKeys t) t2 t3 Dn σ H := by
    intro a u J ev hB hu hit hin
    subst ev
    have hkk : ∀ (od : Obj), ∀ p ∈ (({ G with B0 := B } : GS).lock a od u).kp, p.1 ∈ mu := fun od => hk
    rcases g0.sub.rd a u hB with hH | ⟨od, hH⟩
    · have hBa : B a = some u := by
        rcases hB with q | ⟨o, q⟩
        · exact q
        · rcases g0.sub.rd a _ (.inl q) with z | ⟨o2, z⟩
          · rw [hH] at z; cases z
          · rw [hH] at z; cases z
      refine .inl ⟨a, u, hH, (by cases u <;> first | trivial | cases hu), fun od => ?_⟩
      have gl := g0.reB.lock (od := od) hu (by rw [hBa]; exact fun e => nomatch e) hH
      obtain ⟨v', fp', hv', _, run'⟩ := h2 σ A B _ gl.renv d hd
      have hv2 := h1 σ H (upd H a (.frz od u)) _ (fun b C dx fs e => by rw [upd_ne (fun q => by rw [q, hH] at e; cases e; cases hu)]; exact e) (fun b vs e => by rw [upd_ne (fun q => by rw [q, hH] at e; cases e; cases hu)]; exact e) hv
      rw [hv2] at hv'; cases hv'
      exact run' _ (hin _ (tForR t2 t3 _ σ) od upd_same (for_run r2 r3 (hkk od) gl (hit od B) (fun B' H' σ' A' F' g' => g'.lkd (a, od, u) (List.mem_cons_self ..)) hrun (ends_lock hlk g0 hu hBa hH ok)))
    · refine .inr ?_
      exact run _ (hin _ (tForR t2 t3 _ σ) od hH (for_run r2 r3 (hkk od) (g0.reB.hold hH) (hit od B) (fun B' H' σ' A' F' g' => g'.lkd (a, od, u) (List.mem_cons_self ..)) hrun (ends_hold g0 hH ok)))
  unfold keysOf at hds
  split at hds
  · rename_i ks xs
    cases hds
    simp only [Rep] at rp
    obtain ⟨a, vs, ev, q, l, r, _⟩ := rp
    exact main a _ (fun od => Itk a od (ks.zip vs)) ev q rfl (fun od B0 => it_keys (l.trans r.length)) fun H1 R od e z => ⟨a, od, rfl, .inl ⟨_, e, z⟩⟩
  · rename_i ks xs
    cases hds
    simp only [Rep] at rp
    obtain ⟨a, vs, ev, q, l, r, _⟩ := rp
    exact main a _ (fun od => Itkt a od (ks.zip vs)) ev q rfl (fun od B0 => it_keysT (l.trans r.length)) fun H1 R od e z => ⟨a, od, rfl, .inr ⟨_, e, z⟩⟩
  · cases hds
end
end VI
set_option Elab.async false
set_option linter.all false
set_option maxRecDepth 100000
set_option autoImplicit false
namespace VI
open PySem L2
section
variable (K : PySem.W.Frag) (cl : Tb)
def cV (m : Ev → Option D) : TE := fun σ H Q => ∃ A B d, REnv K cl B H σ A ∧ m A = some d ∧ ∀ v B' H' fp, New B H B' H' → Rep K cl B' H' d v fp → Q v H'
def cD (m : Ev → Option D) : TE := fun σ H Q => ∃ A B d, REnv K cl B H σ A ∧ m A = some d ∧ ∀ v B' H' fp, New B H B' H' → Rep K cl B' H' d v fp → Fresh H B' fp → Q v H'
def cT (m : Ev → Option Bool) : TT := fun σ H Q => ∃ A B b, REnv K cl B H σ A ∧ m A = some b ∧ ∀ B' H', New B H B' H' → Q b H'
def cI (m : Ev → Option (List D)) : TI := fun σ H R => ∃ A B ds, REnv K cl B H σ A ∧ m A = some ds ∧ ∀ J B' H', New B H B' H' → ItOk K cl J ds B' → R J H'
end
section
variable {X : Cx} {cl : Tb} {e tg iter : Expr} {m : Ev → Option D} {mt : Ev → Option Bool} {mi : Ev → Option (List D)} {g : D → Ev → Option Ev} {vs : List Nat} {pos : Pos}
theorem EvV.c (h : EvV X cl e m) : PE X e (cV X.K cl m) := by
  obtain ⟨t, p, r⟩ := h
  exact ⟨fun pins s σ H Q I ⟨A, B, d, R, hd, q⟩ => p.run pins s σ H Q I (r σ A B H R d hd Q q)⟩
theorem EvD.c (h : EvD X cl e m) : PE X e (cD X.K cl m) := by
  obtain ⟨t, p, r⟩ := h
  exact ⟨fun pins s σ H Q I ⟨A, B, d, R, hd, q⟩ => p.run pins s σ H Q I (r σ A B H R d hd Q q)⟩
theorem EvT.c (h : EvT X cl e mt) : PT X e (cT X.K cl mt) := by
  obtain ⟨t, p, r⟩ := h
  exact ⟨fun pins s σ H Q I ⟨A, B, d, R, hd, q⟩ => p.run pins s σ H Q I (r σ A B H R d hd Q q)⟩
theorem VI_.c (h : VI_ X cl tg iter mi) : PI X tg iter (cI X.K cl mi) := by
  obtain ⟨w, p, r⟩ := h
  exact ⟨fun pins s σ H R I ⟨A, B, d, R0, hd, q⟩ => p.run pins s σ H R I (r σ A B H R0 d hd R q)⟩
def mYes : Ev → Option Bool := fun _ => some true
def wipeA (A : Ev) (vs : List Nat) : Ev := vs.foldl (fun A i => A.set i none) A
def lcItem (g : D → Ev → Option Ev) (mt : Ev → Option Bool) (me : Ev → Option D) (A : Ev) (d : D) : Option (Option D) := (g d A).bind fun A' => (mt A').bind fun b => if b = true then (me A').map some else some none
def lcRun (f : D → Option (Option D)) : List D → Option (List D)
  | [] => some []
  | d :: ds => (f d).bind fun o => (lcRun f ds).map fun r => o.toList ++ r
end
def mLcN (mi : Ev → Option (List D)) (c : Ev → D → Option (Option D)) (vs : List Nat) : Ev → Option D := fun A => (mi A).bind fun ds => if ds.length ≤ 100000 then (lcRun (c (wipeA A vs)) ds).map fun xs => .lst true xs else none
end VI
set_option Elab.async false
set_option linter.all false
set_option maxRecDepth 100000
set_option autoImplicit false
namespace VI
open PySem L2
section
variable {X : Cx} {cl : Tb} {e o f : Expr} {mo me : Ev → Option D} {apos cpos : Pos}
def sortI (ns : List Int) : List Int := ns.mergeSort fun a b => decide (a ≤ b)
theorem sortI_perm (ns : List Int) : (sortI ns).Perm ns := List.mergeSort_perm _ _
theorem sortI_sorted (ns : List Int) : (sortI ns).Pairwise (· ≤ ·) :=
  (List.pairwise_mergeSort (fun a b c h1 h2 => by simp at *; omega) (fun a b => by simp; omega) ns).imp (fun h => by simpa using h)
def sortedD : List D → Option D
  | [.lst _ xs] => (intsD xs).map fun ns => .lst true ((sortI ns).map D.int)
  | _ => none
end
end VI
set_option Elab.async false
set_option linter.all false
set_option maxRecDepth 100000
set_option autoImplicit false
namespace VI
open PySem L2
section
variable {X : Cx} {cl : Tb} {e o tg iter : Expr} {m mo : Ev → Option D} {mt : Ev → Option Bool} {mi : Ev → Option (List D)} {g : D → Ev → Option Ev} {vs : List Nat} {pos apos cpos : Pos}
def negD : D → Option D
  | .int i => some (.int (-i))
  | _ => none
def mNeg (m : Ev → Option D) : Ev → Option D := fun A => (m A).bind negD
theorem ev_neg (h : EvV X cl e m) : EvD X cl (.UnaryOp .USub e pos) (mNeg m) := by
  obtain ⟨t, p, r⟩ := h
  refine ⟨_, pe_un un_neg p, fun σ A B H R d hd Q q => ?_⟩
  simp only [mNeg, Option.bind_eq_some_iff] at hd
  obtain ⟨x, hx, hd⟩ := hd
  refine r σ A B H R x hx _ fun v B1 H1 f1 n1 r1 => ?_
  cases x <;> simp only [negD] at hd <;> try (cases hd; done)
  cases hd
  rw [rep_int_iff] at r1
  exact ⟨_, r1.1, q _ B1 H1 [] n1 rep_int Fresh.nil⟩
def pairsD : List D → Option (List Key × List D)
  | [] => some ([], [])
  | .tup [k, v] :: r => (keyD k).bind fun k' => if v.plain = true then (pairsD r).map fun p => (k' :: p.1, v :: p.2) else none
  | _ => none
def dictD : List D → Option D
  | [.dct _ ks xs] => if D.plainL xs = true then some (.dct true ks xs) else none
  | [.lst _ xs] => (pairsD xs).bind fun p => if p.1.Nodup then some (.dct true p.1 p.2) else none
  | _ => none
def dcItem (g : D → Ev → Option Ev) (mt : Ev → Option Bool) (mk me : Ev → Option D) (A : Ev) (d : D) : Option (Option (Key × D)) := (g d A).bind fun A' => (mt A').bind fun b => if b = true then (mk A').bind fun y => (keyD y).bind fun k => (me A').map fun z => some (k, z) else some none
def dcRun (f : D → Option (Option (Key × D))) : List D → Option (List (Key × D))
  | [] => some []
  | d :: ds => (f d).bind fun o => (dcRun f ds).map fun r => o.toList ++ r
def mDcN (mi : Ev → Option (List D)) (c : Ev → D → Option (Option (Key × D))) (vs : List Nat) : Ev → Option D := fun A => (mi A).bind fun ds => if ds.length ≤ 100000 then (dcRun (c (wipeA A vs)) ds).bind fun ps => if (ps.map (·.1)).Nodup then some (.dct true (ps.map (·.1)) (ps.map (·.2))) else none else none
structure ItOkX (K : PySem.W.Frag) (cl : Tb) (J : It) (ds : List D) (B1 H1 : Hp) : Prop where
  go : ∀ B' H', New B1 H1 B' H' → ∀ (i : Nat) (d : D), ds[i]? = some d → J.go i H' ∧ ∀ x H2, J.yld i H' x H2 → ∃ B2, New B' H' B2 H2 ∧ Rep K cl B2 H2 d x []
  stop : ∀ B' H', New B1 H1 B' H' → ∀ i, ds.length ≤ i → J.stop i H'
end
end VI
set_option Elab.async false
set_option linter.all false
set_option maxRecDepth 100000
set_option autoImplicit false
namespace VI
open PySem PySem.Spec PyProof.Rows L2
section
variable {M : Model} {A : Around} {E : Value → Shared → Prop} {s : Shared} {K : PySem.W.Frag} {x C f : Addr} {ox : Obj} {od : Option Obj}
theorem own_contains {v : Value} {Q : Bool → Shared → Prop} (hK : K.In s.heap) (I : PySem.W.InstAt s.heap x ox C od) (hs : PySem.W.findIn K (.ref C) "__contains__" = some (some (.ref f))) (hf : PySem.W.isFn K (.ref f) = true)
    (h : wpAny M A (call (.ref f) [.ref x, v]) (fun r s' => wpAny M A (truthy r) Q E s') E s) : wpAny M A (contains (.ref x) v) Q E s := by
  have L := PySem.W.looks_findIn (M := M) hK hs
  unfold contains
  refine wpAny_holding ?_
  show wpAny M A (specialOf (.ref x) "__contains__" >>= _) Q E s
  refine wpAny_bind (wpAny_bind (I.type.here (L.here ?_)))
  show wpAny M A (callSpecialUnlessNone? (.ref x) "__contains__" [v] _ >>= _) Q E s
  unfold callSpecialUnlessNone?
  refine wpAny_bind (wpAny_bind (wpAny_bind (I.type.here (L.here ?_))))
  refine wpAny_holding (wpAny_bind ((PySem.W.bind_fn hK _ (beq_iff_eq.mp hf)).here ?_))
  show wpAny M A (call (.ref f) ([.ref x] ++ [v]) >>= fun v => pure (some v)) _ E s
  refine wpAny_bind (wpAny_mono h (fun r s' hr => wpAny_pure hr) fun _ _ z => z)
end
section
variable {X : Cx} {pins : List (Addr × Obj)} {σ : L2.St} {H : Hp} {s : Shared} {C f : Addr} {fd : FuncData} {ps : List Str} {sp : Sp} {k : Nat}
theorem run_at {A1 : Around} {Q : VK} {EE : Value → Shared → Prop} {us : List Value} {vs : List V} (hA : A1.frames = X.A.frames) (F : FnOk X.prog X.w X.K X.mg X.base CX0 k f fd ps sp) (hr : Room k A1) (hb : Binds X.K fd ps []) (I : Inv X pins σ H s) (r : Vals vs us) (h : sp vs H Q E0) :
    wpAny (model X.prog X.w) A1 (call (.ref f) us) (EP X pins σ Q) EE s := by
  have hl : us.length = ps.length := by rw [← r.length]; exact F.len _ _ _ _ h
  have e0 : Env0 X.prog X.w X.K X.mg X.base A1 X.stack s H := by
    have e := I.env0
    exact ⟨by rw [hA]; exact e.frames, e.mod, e.bs, e.bsz, e.funs, e.frf, e.hok, e.bare⟩
  have hb' : BindsTo s fd ⟨us, []⟩ (ps.zip us) := by simpa using hb s us I.kIn (by simpa using hl)
  refine wpAny_call (codeAny_mono (F.run A1 X.stack s H ⟨us, []⟩ us vs Q E0 hr e0 hb' r h) fun r s' hq => ?_)
  rcases r with e | fl
  · exact False.elim hq
  · cases fl
    case ret u => exact I.after hq
    all_goals exact False.elim hq
def rInOwn (C : Addr) (sp : Sp) (neg : Bool) : R2 := fun x y H Q => ∃ a dx fs, y = .ref a ∧ H a = some (.ins C dx fs) ∧ sp [.ref a, x] H (fun v H' => ∃ b, v = .bl b ∧ Q (.bl (if neg then !b else b)) H') E0
theorem op_ninOwn (hM : Meth X.K C "__contains__" f) (F : FnOk X.prog X.w X.K X.mg X.base CX0 k f fd ps sp) (hr : Room k X.A) (hb : Binds X.K fd ps []) : OpR X (compareOp .NotIn) (rInOwn C sp true) := by
  intro pins s σ H x y v u Q I rx ry h
  obtain ⟨a, dx, fs, rfl, ha, q⟩ := h
  obtain rfl : u = Value.ref a := ry
  obtain ⟨mA, J, _⟩ := ins_get I.hok ha
  obtain ⟨od, J, _⟩ := J.look
  show wpAny _ X.A (contains (.ref a) v >>= fun b => pure (Value.bool (!b))) _ _ _
  refine wpAny_bind (own_contains I.kIn J hM.at_ hM.fn (wpAny_mono (run_at (vs := [.ref a, x]) rfl F hr hb I (.cons rfl (.cons rx .nil)) q) (fun r s' hq => ?_) fun _ _ z => z))
  obtain ⟨w, H', I', rw_, b, rfl, qq⟩ := hq
  obtain rfl : r = Value.bool b := rw_
  exact wpAny_truthy_bool (wpAny_pure ⟨.bl (!b), H', I', rfl, qq⟩)
end
def spIt (K : PySem.W.Frag) (C : Addr) (fld : Str) (n : Nat) : Sp := fun vs H Q _ => ∃ a dx fs l zs, vs = [.ref a] ∧ H a = some (.ins C dx fs) ∧ fs.lookup fld = some (.ref l) ∧ SqL K H l zs ∧ ∀ it, H it = none → n ≤ it → Q (.ref it) (upd H it (ItO l it 0))
section
variable {X : Cx} {C f : Addr} {fld : Str} {e : Expr} {p1 p3 p4 p5 : Pos}
theorem call_iterB : CallR X (.builtin "iter") (ItX.rIterN X.K X.base.objs.size) := by
  intro pins s σ H xs us Q I r h
  obtain ⟨l, zs, h1, h2, q⟩ := h
  exact ItX.call_iterN pins s σ H xs us Q I r ⟨l, zs, h1, h2, fun it n1 n2 => q it n1 (Nat.le_trans I.ok.bsz n2)⟩
theorem iter_pss (hC : Cls X.K C) (hN : NoAttr X.K C fld) (hg : Gl X "iter") (hm : X.mg "iter" = none) (hv : PE X e (tVar 0)) (hb : attributeBase e fld X.env (eval e X.env) = eval e X.env := by rfl)
    (he : starEach [.Attribute e fld p3] X.env = (false, eval (.Attribute e fld p3) X.env) :: starEach [] X.env := by rfl) (hpl : (backTo p4 (starEach [] X.env)).any (·.1) = false := by rfl) {vs : List V} {H : Hp} {Q : VK} {E : XK} (h : spIt X.K C fld X.base.objs.size vs H Q E) :
    ∃ t, PSs X [.Return (some (.Call (.Name "iter" p1) [.Attribute e fld p3] [] p4)) p5] t ∧ t { nx := fun _ H' => Q .non H', rt := Q } (L2.start ["self"] vs) H := by
  refine ⟨_, pss_one (ps_ret (pe_callB call_iterB hg hm PyProof.Rows.boot_iter (pa_cons (pe_fld hv hb) pa_nil) (by decide) (by decide) he hpl)), ?_⟩
  obtain ⟨a, dx, fs, l, zs, rfl, ha, hl, hq, q⟩ := h
  exact ⟨.ref a, rfl, a, C, dx, fs, .ref l, rfl, ha, hC, hN, hl, l, zs, rfl, hq, q⟩
end
section
variable {X : Cx} {pins : List (Addr × Obj)} {σ : L2.St} {H : Hp} {s : Shared} {C f : Addr} {fd : FuncData} {ps : List Str} {k : Nat} {fld : Str}
def padB (base h : Heap) : Heap := PySem.W.hideAll h ((List.range h.objs.size).filter fun b => (base.get? b).isNone)
theorem padB_some {base h : Heap} {b : Addr} {o : Obj} (hk : ∀ b o, base.get? b = some o → h.get? b = some o) : (padB base h).get? b = some o ↔ base.get? b = some o := by
  constructor
  · intro e
    have e1 := PySem.W.of_hideAll _ e
    cases q : base.get? b with
    | some o' => rw [hk b o' q] at e1; exact e1
    | none =>
      have hm : b ∈ (List.range h.objs.size).filter fun b => (base.get? b).isNone := by
        rw [List.mem_filter, List.mem_range]; exact ⟨Heap.lt_size e1, by rw [q]; rfl⟩
      have := PySem.W.hideAll_none _ hm (h := h)
      unfold padB at e
      rw [this] at e; cases e
  · intro e
    refine PySem.W.hideAll_get _ (hk b o e) fun hm => ?_
    rw [List.mem_filter, e] at hm
    cases hm.2
theorem env0_pad {A1 : Around} (hA : A1.frames = X.A.frames) (I : Inv X pins σ H s) : Env0 X.prog X.w X.K X.mg (padB X.base s.heap) A1 X.stack s H := by
  have e := I.env0
  have hk : ∀ b o, X.base.get? b = some o → s.heap.get? b = some o := fun b o h => (e.bs b o h).1
  have up : ∀ b o, X.base.get? b = some o → (padB X.base s.heap).get? b = some o := fun b o h => (padB_some hk).mpr h
  obtain ⟨m1, m2, ⟨mb, m3, m4⟩, m5⟩ := e.mod
  refine ⟨by rw [hA]; exact e.frames, ⟨m1.keeps up, m2.keeps up, ⟨mb, m3.keeps up, m4⟩, m5.keeps up⟩, fun b o h => e.bs b o ((padB_some hk).mp h), Nat.le_of_eq (PySem.W.hideAll_size _ _), L2.funFrames_none e.funs fun L hL => ?_, e.frf, e.hok, e.bare⟩
  cases q : (padB X.base s.heap).get? L with
  | none => rfl
  | some o =>
    have := (padB_some hk).mp q
    rw [(e.funs.mem hL).1] at this; cases this
theorem run_iter {A1 : Around} {R : Value → Shared → Prop} {a l dx : Addr} {fs : List (Str × V)} {zs : List V} (hA : A1.frames = X.A.frames) (F : ∀ base, FnOk X.prog X.w X.K X.mg base CX0 k f fd ps (spIt X.K C fld base.objs.size)) (hr : Room k A1) (hb : Binds X.K fd ps [])
    (I : Inv X pins σ H s) (ha : H a = some (.ins C dx fs)) (hl : fs.lookup fld = some (.ref l)) (hq : SqL X.K H l zs)
    (h : ∀ it s', Inv X pins σ (upd H it (ItO l it 0)) s' → H it = none → s.heap.objs.size ≤ it → R (.ref it) s') : wpAny (model X.prog X.w) A1 (call (.ref f) [.ref a]) R X.xe s := by
  have hsz : (padB X.base s.heap).objs.size = s.heap.objs.size := PySem.W.hideAll_size _ _
  have hsp : spIt X.K C fld (padB X.base s.heap).objs.size [.ref a] H (fun v H' => ∃ it, v = .ref it ∧ H it = none ∧ s.heap.objs.size ≤ it ∧ H' = upd H it (ItO l it 0)) E0 :=
    ⟨a, dx, fs, l, zs, rfl, ha, hl, hq, fun it n1 n2 => ⟨it, rfl, n1, by rw [hsz] at n2; exact n2, rfl⟩⟩
  have r : Vals [V.ref a] [Value.ref a] := .cons rfl .nil
  have hlen : ([Value.ref a] : List Value).length = ps.length := (F _).len _ _ _ _ hsp
  have hb' : BindsTo s fd ⟨[.ref a], []⟩ (ps.zip [.ref a]) := by simpa using hb s [.ref a] I.kIn (by simpa using hlen)
  refine wpAny_call (codeAny_mono ((F _).run A1 X.stack s H ⟨[.ref a], []⟩ [.ref a] [.ref a] _ E0 hr (env0_pad hA I) hb' r hsp) fun rr s' hq' => ?_)
  rcases rr with ex | fl
  · exact False.elim hq'
  · cases fl
    case ret u =>
      obtain ⟨v, H', I', rv, it, rfl, n1, n2, rfl⟩ := I.after hq'
      cases rv
      exact h it s' I' n1 n2
    all_goals exact False.elim hq'
theorem iter_own {Q : Value → Shared → Prop} {a l dx : Addr} {fs : List (Str × V)} {zs : List V} (hM : Meth X.K C "__iter__" f) (F : ∀ base, FnOk X.prog X.w X.K X.mg base CX0 k f fd ps (spIt X.K C fld base.objs.size)) {A1 : Around} (hA : A1.frames = X.A.frames) (hr : Room k A1) (hb : Binds X.K fd ps [])
    (I : Inv X pins σ H s) (ha : H a = some (.ins C dx fs)) (hl : fs.lookup fld = some (.ref l)) (hq : SqL X.K H l zs)
    (h : ∀ it s', Inv X pins σ H s' → s'.heap.IsListIter it l 0 → FpOk X pins H it → Q (.ref it) s') : wpAny (model X.prog X.w) A1 (pyIter (.ref a)) Q X.xe s := by
  obtain ⟨mA, J, _⟩ := ins_get I.hok ha
  obtain ⟨od, J, _⟩ := J.look
  obtain ⟨m, hF⟩ := I.fr
  refine PySem.W.owit_iter hF I.ok.mod.kin J hM.at_ hM.fn (run_iter hA F hr hb I ha hl hq fun it s' I' n1 n2 => ?_)
  have hit : s'.heap.get? it = some (GNX.itObj l 0) := itO_get I' upd_same
  have hd := ItX.inv_drop I' upd_same
  have hf := ItX.inv_fp I' upd_same (Nat.le_trans I.sz n2)
  rw [ItX.dropH_upd n1] at hd hf
  unfold PySem.W.OwitIt
  refine wpAny_specialOf (T := "list_iterator") (r := some (.builtin "list_iterator.__next__")) ⟨_, hit, rfl⟩ ?_ ?_
  · rw [typeLookup_type, builtinLookup_eq_fast]; kernel_rfl
  · exact h it s' hd ⟨_, hit, rfl, rfl⟩ hf
end
end VI
namespace VI
open PySem PySem.Spec PyProof.Rows L2
section
variable {X : Cx} {cl : Tb} {g : List D → Option (D × Ev)} {c : Nat} {tg e : Expr} {me : Ev → Option D} {f : Addr} {fd : FuncData} {ps : List Str} {k : Nat} {fld : Str} {p pos : Pos}
def isCl (c : Nat) : D → Bool
  | .obj _ c' _ _ => c' == c
  | _ => false
theorem isCl_view {cl : Nat → Addr} {B H : Hp} {d : D} {v : V} {fp : List Addr} (h : isCl c d = true) (s : BLe B H) (r : Rep X.K cl B H d v fp) : ∃ a dx fs, v = .ref a ∧ H a = some (.ins (cl c) dx fs) := by
  cases d <;> simp only [isCl] at h <;> try (cases h; done)
  rw [beq_iff_eq] at h
  subst h
  obtain ⟨a, dx, vs, fq, e1, e2, _⟩ := r.obj_view s
  exact ⟨a, dx, _, e1, e2⟩
def apB (g : List D → Option (D × Ev)) (ds : List D) : Option D := (g (D.frzL ds)).bind fun r => if D.plainL ds = true ∨ r.1.clean = true then some r.1 else none
theorem apB_some {ds : List D} {d : D} (h : apB g ds = some d) : ∃ A', g (D.frzL ds) = some (d, A') ∧ (D.plainL ds = true ∨ d.clean = true) := by
  unfold apB at h
  simp only [Option.bind_eq_some_iff] at h
  obtain ⟨r, h1, h2⟩ := h
  split at h2
  · rename_i hc
    cases h2
    exact ⟨r.2, h1, hc⟩
  · cases h2
def blD (neg : Bool) : D → Option D
  | .bl b => some (.bl (if neg then !b else b))
  | _ => none
def inOwnD (c : Nat) (g : List D → Option (D × Ev)) (neg : Bool) (x y : D) : Option D := if isCl c y = true then (apB g [y, x]).bind (blD neg) else none
theorem inOwn_ok {neg : Bool} : OpD X cl (rInOwn (cl c) (SpF X.K cl [] 2 g) neg) (inOwnD c g neg) := by
  intro B H x y d u v f1 f2 s r1 r2 h Q q
  unfold inOwnD at h
  split at h
  · rename_i hc
    obtain ⟨a, dx, fs, rfl, ha⟩ := isCl_view hc s r2
    simp only [Option.bind_eq_some_iff] at h
    obtain ⟨d1, h1, h2⟩ := h
    obtain ⟨A', h3, h4⟩ := apB_some h1
    refine ⟨a, dx, fs, rfl, ha, call_pure s.tab s (repL_cons r2 (repL_cons r1 repL_nil)) rfl h3 h4 fun w B' H' fq n rw_ fr => ?_⟩
    cases d1 <;> simp only [blD] at h2 <;> try (cases h2; done)
    cases h2
    rw [rep_bl_iff] at rw_
    exact ⟨_, rw_.1, q _ B' H' [] n rep_bl Fresh.nil⟩
  · cases h
def ownItems (c : Nat) (fld : Str) : D → Option (List D)
  | .obj _ c' fs xs => if c' = c then ((fs.zip xs).lookup fld).bind fun d => match d with
    | .lst false ys => some ys
    | _ => none
    else none
  | _ => none
def mOwnIt (c : Nat) (fld : Str) (m : Ev → Option D) : Ev → Option (List D) := fun A => (m A).bind fun d => ownItems c fld d.frz
end
end VI
set_option Elab.async false
set_option linter.all false
set_option maxRecDepth 100000
set_option autoImplicit false
namespace VI
open PySem PySem.Spec PyProof.Rows L2
def spLn (K : PySem.W.Frag) (C : Addr) (fld : Str) : Sp := fun vs H Q _ => ∃ a dx fs l zs, vs = [.ref a] ∧ H a = some (.ins C dx fs) ∧ fs.lookup fld = some (.ref l) ∧ SqL K H l zs ∧ zs.length ≤ 100000 ∧ Q (.int zs.length) H
section
variable {X : Cx} {pins : List (Addr × Obj)} {σ : L2.St} {H : Hp} {s : Shared} {C f fl : Addr} {fd fdl : FuncData} {ps psl : List Str} {k kl : Nat} {fld : Str} {e : Expr} {p1 p3 p4 p5 : Pos}
theorem len_pss (hC : Cls X.K C) (hN : NoAttr X.K C fld) (hg : Gl X "len") (hm : X.mg "len" = none) (hb' : bootBuiltins "len" = some (.builtin "len")) (hv : PE X e (tVar 0)) (hb : attributeBase e fld X.env (eval e X.env) = eval e X.env := by rfl)
    (he : starEach [.Attribute e fld p3] X.env = (false, eval (.Attribute e fld p3) X.env) :: starEach [] X.env := by rfl) (hpl : (backTo p4 (starEach [] X.env)).any (·.1) = false := by rfl) {vs : List V} {Q : VK} {E : XK} (h : spLn X.K C fld vs H Q E) :
    ∃ t, PSs X [.Return (some (.Call (.Name "len" p1) [.Attribute e fld p3] [] p4)) p5] t ∧ t { nx := fun _ H' => Q .non H', rt := Q } (L2.start ["self"] vs) H := by
  refine ⟨_, pss_one (ps_ret (pe_callB call_lenA hg hm hb' (pa_cons (pe_fld hv hb) pa_nil) (by decide) (by decide) he hpl)), ?_⟩
  obtain ⟨a, dx, fs, l, zs, rfl, ha, hl, hq, hz, q⟩ := h
  refine ⟨.ref a, rfl, a, C, dx, fs, .ref l, rfl, ha, hC, hN, hl, ?_⟩
  exact .inl ⟨l, zs, rfl, .inl hq, q⟩
theorem len_own {A1 : Around} {Q EE : Value → Shared → Prop} {a l dx : Addr} {fs : List (Str × V)} {zs : List V} (hM : Meth X.K C "__len__" fl) (F : FnOk X.prog X.w X.K X.mg X.base CX0 kl fl fdl psl (spLn X.K C fld)) (hA : A1.frames = X.A.frames) (hr : Room (kl + 1) A1) (hb : Binds X.K fdl psl [])
    (I : Inv X pins σ H s) (ha : H a = some (.ins C dx fs)) (hl : fs.lookup fld = some (.ref l)) (hq : SqL X.K H l zs) (hz : zs.length ≤ 100000) (h : ∀ s' t, Inv X pins σ H s' → Q (.int (zs.length : Nat) t) s') : wpAny (model X.prog X.w) A1 (call (.builtin "len") [.ref a]) Q EE s := by
  obtain ⟨mA, J, _⟩ := ins_get I.hok ha
  obtain ⟨od, J, _⟩ := J.look
  refine Calls.call_function_entry kind_len plain_len entry_len (args_len1 _) ?_
  unfold Builtin.«len»
  refine wpAny_bind (m := oneArg "len" _) (wpAny_pure ?_)
  refine wpAny_bind (m := callSpecial? _ (Str.ofString "__len__")) (PySem.W.special_fn I.kIn J hM.at_ (beq_iff_eq.mp hM.fn) (wpAny_mono (run_at (Q := fun v H' => v = .int (zs.length : Nat) ∧ H' = H) (A1 := A1.in1) (vs := [.ref a]) hA F hr.in1 hb I (.cons rfl .nil) ⟨a, dx, fs, l, zs, rfl, ha, hl, hq, hz, rfl, rfl⟩) (fun r s' hq => ?_) fun _ _ z => z))
  obtain ⟨w, H', I', rw_, rfl, rfl⟩ := hq
  obtain ⟨t, rfl⟩ := (show ∃ t, r = Value.int _ t from rw_)
  refine wpAny_bind (wpAny_holding (wpAny_pure ?_))
  refine wpAny_bind (wpAny_letGo ?_)
  show wpAny _ _ (if (zs.length : Int) < 0 then _ else _) _ _ _
  rw [if_neg (by omega)]
  show wpAny _ _ (if (zs.length : Int) ≥ 2 ^ 63 then _ else _) _ _ _
  rw [if_neg (by omega)]
  exact wpAny_bind (wpAny_mkInt (wpAny_pure ⟨_, rfl, h _ _ (I'.tok _)⟩))
theorem SqL.updn {K : PySem.W.Frag} {q l : Addr} {o : HO} {zs : List V} (h : SqL K H l zs) (hq : H q = none) (hk : ∀ o, K.lookup q ≠ some o) : SqL K (upd H q o) l zs := by
  by_cases e : l = q
  · subst e
    rcases h with h | ⟨o, its, n, h1, _⟩
    · rcases h with h | h <;> simp_all
    · exact absurd h1 (hk o)
  · exact h.ext fun b o' hb => by rw [upd_ne (fun z => by rw [z, hq] at hb; cases hb)]; exact hb
theorem ext_loop {A1 : Around} {q it l : Addr} {zs : List V} {Rs : Result → Shared → Prop} (hh : A1.handled = none) (hql : q ≠ l) (hql2 : it ≠ q) (hdone : ∀ s, Inv X pins σ (upd H q (.lst zs)) s → Rs (.ok (.ret .none)) s)
    (hf : FpOk X pins H it) (hqz : ∀ ys, SqL X.K (upd H q (.lst ys)) l zs) (hz : zs.length ≤ 100000) :
    ∀ (k i : Nat) (s : Shared), zs.length - i = k → i ≤ zs.length → Inv X pins σ (upd H q (.lst (zs.take i))) s → s.heap.IsListIter it l i → codeAny (model X.prog X.w) A1 (.builtin "list.extend.loop" ⟨[.ref q, .ref it, .none], []⟩) Rs s := by
  obtain ⟨f0, f1, f2, f3, f4, f5⟩ := hf
  have fn : ∀ ys, upd H q (.lst ys) it = none := fun ys => by rw [upd_ne hql2]; exact f0
  intro k
  induction k with
  | zero =>
    intro i s hk hi I st
    have e : i = zs.length := by omega
    subst e
    rw [List.take_length] at I
    refine codeAny_builtin PySem.F.entry_extend_loop ?_
    rw [Around.under_plainId PySem.F.plain_extend_loop _]
    show wpAny _ A1.in1 (pyNext (.ref it) >>= _) _ _ s
    obtain ⟨its, rv, p, hz'⟩ := I.list (hqz _)
    have hl := rv.length
    exact wpAny_bind (wpAny_pyNext_list_end hh st p.isList (by simp; omega) fun h' eb => wpAny_pure (hdone _ (I.turned (t' := s.toks) (fun b o hb e => eb b o hb e) (fn _) f1 f3 f4 f5)))
  | succ k ih =>
    intro i s hk hi I st
    have hi' : i < zs.length := by omega
    refine codeAny_builtin PySem.F.entry_extend_loop ?_
    rw [Around.under_plainId PySem.F.plain_extend_loop _]
    show wpAny _ A1.in1 (pyNext (.ref it) >>= _) _ _ s
    obtain ⟨its, rv, p, hz'⟩ := I.list (hqz _)
    obtain ⟨u, hu, ru⟩ := rv.get (List.getElem?_eq_getElem hi')
    refine wpAny_bind (wpAny_pyNext_list_item st p.isList (x := u) (by simpa using hu) fun h' st' sb => ?_)
    have I1 : Inv X pins σ (upd H q (.lst (zs.take i))) { s with heap := h' } := I.turned (t' := s.toks) (fun b o hb e => (sb.2 b hb).trans e) (fn _) f1 f3 f4 f5
    show wpAny _ A1.in1 (updateSeq q (·.push u) >>= _) _ _ _
    obtain ⟨z, jts, n, r2, hl, e⟩ := I1.lstM upd_same
    have htl : (zs.take i).length = i := by simp; omega
    have hline : i + 1 ≤ sizeLine := by rw [sizeLine_eq]; omega
    refine wpAny_bind (wpAny_updateSeq e rfl (wpAny_pure ⟨plainId_quiet PySem.F.plain_extend_loop _, ?_⟩) (by rw [List.size_toArray]; omega) (by show (jts.toArray.push u).size ≤ sizeLine + 1; rw [Array.size_push, List.size_toArray]; omega))
    have I2 := I1.lset (f := (·.push u)) (its' := jts ++ [u]) (t' := s.toks) (ys := zs.take (i + 1)) upd_same e (by simp) (by
      have := r2.append (.cons ru .nil)
      rwa [← List.take_succ_eq_append_getElem hi'] at this) (by simp; omega)
    rw [upd_upd] at I2
    exact ih (i + 1) _ (by omega) hi' I2 (st'.at fun o ho => (Heap.get?_update_other _ _ (fun z => hql2 z.symm)).trans ho)
def rLstOwn (K : PySem.W.Frag) (C : Addr) (fld : Str) : List V → Hp → VK → Prop := fun xs H Q => ∃ a dx fs l zs, xs = [.ref a] ∧ H a = some (.ins C dx fs) ∧ fs.lookup fld = some (.ref l) ∧ SqL K H l zs ∧ zs.length ≤ 100000 ∧ ∀ q, H q = none → Q (.ref q) (upd H q (.lst zs))
theorem own_hintL {A1 : Around} {Q : Bool → Shared → Prop} {a l dx : Addr} {fs : List (Str × V)} {zs : List V} (hM : Meth X.K C "__len__" fl) (F : FnOk X.prog X.w X.K X.mg X.base CX0 kl fl fdl psl (spLn X.K C fld)) (hA : A1.frames = X.A.frames) (hr : Room (kl + 1) A1) (hb : Binds X.K fdl psl [])
    (I : Inv X pins σ H s) (ha : H a = some (.ins C dx fs)) (hl : fs.lookup fld = some (.ref l)) (hq : SqL X.K H l zs) (hz : zs.length ≤ 100000) (h : ∀ s' b, Inv X pins σ H s' → Q b s') : wpAny (model X.prog X.w) A1 (Builtin.List.listLengthHint (.ref a)) Q X.xe s := by
  obtain ⟨mA, J, _⟩ := ins_get I.hok ha
  obtain ⟨od, J, _⟩ := J.look
  have hL := PySem.W.looks_findIn (M := model X.prog X.w) I.kIn hM.at_
  unfold Builtin.List.listLengthHint
  refine wpAny_bind (wpAny_bind (J.type.here (hL.here ?_)))
  refine PySem.W.KFB.if_not rfl ?_
  dsimp only
  rw [if_pos (show (some (Value.ref fl)).isSome = true from rfl)]
  refine wpAny_bind (wpAny_rule ?_)
  refine wpAny_bind (wpAny_attempt (len_own hM F hA hr hb I ha hl hq hz fun s' t I' => ?_))
  refine wpAny_bind (m := asInt? (.int (zs.length : Nat) t)) (wpAny_pure ?_)
  dsimp only
  rw [if_neg (by rw [notLongL (by rw [sizeLine_eq]; simp; omega)]; decide)]
  exact wpAny_pure (h s' _ I')
theorem call_lstOwn (hcalm : X.calm = true) (hML : Meth X.K C "__len__" fl) (FL : FnOk X.prog X.w X.K X.mg X.base CX0 kl fl fdl psl (spLn X.K C fld)) (hrl : Room (kl + 3) X.A) (hbl : Binds X.K fdl psl [])
    (hMI : Meth X.K C "__iter__" f) (FI : ∀ base, FnOk X.prog X.w X.K X.mg base CX0 k f fd ps (spIt X.K C fld base.objs.size)) (hr : Room (k + 2) X.A) (hb : Binds X.K fd ps []) : CallR X (.type "list") (rLstOwn X.K C fld) := by
  intro pins s σ H xs us Q I rv h
  obtain ⟨a, dx, fs, l, zs, rfl, ha, hl, hq, hz, qq⟩ := h
  obtain ⟨u, rfl, ru⟩ := rv.one
  cases ru
  refine callType_codes (Q₁ := fun obj s₁ => obj = .ref s.heap.objs.size ∧ s₁ = { s with heap := s.heap.push { cls := .type "list", data := .seq #[] } }) PySem.F.called_list (PySem.F.typeCall_list_1 _) PySem.F.entry_list_init
    (code_list_new _ ⟨rfl, rfl⟩) fun obj s₁ h₁ => ?_
  obtain ⟨rfl, rfl⟩ := h₁
  have hS : (s.heap.push { cls := .type "list", data := .seq #[] }).get? s.heap.objs.size = some { cls := .type "list", data := .seq #[] } := Heap.get?_push_size _ rfl
  refine ⟨⟨_, hS, rfl⟩, PySem.F.args_list_init_2 _ _, ?_⟩
  have fr : H s.heap.objs.size = none := I.hok.fresh (Nat.le_refl _)
  obtain ⟨q, hqe⟩ : ∃ q, s.heap.objs.size = q := ⟨_, rfl⟩
  have hkq : ∀ o, X.K.lookup s.heap.objs.size ≠ some o := fun o e => Nat.lt_irrefl _ (Heap.lt_size (I.kIn _ _ e))
  have I1 : Inv X pins σ (upd H s.heap.objs.size (.lst [])) { s with heap := s.heap.push { cls := .type "list", data := .seq #[] } } := I.lnew (its := []) (t' := s.toks) .nil (Nat.zero_le _)
  show wpAny _ _ (do let old ← Builtin.List.listItems (.ref s.heap.objs.size); Builtin.List.listUpdate (.ref s.heap.objs.size) (fun _ => #[]); letGo old.toList.reverse; Builtin.List.listExtendWith (.ref s.heap.objs.size) (.ref a) .none) _ _ _
  refine wpAny_bind ?_
  unfold Builtin.List.listItems
  refine wpAny_bind (wpAny_seqItems hS rfl (wpAny_pure ?_))
  show wpAny _ _ (updateSeq s.heap.objs.size (fun _ => #[]) >>= fun _ => letGo (#[] : Array Value).toList.reverse >>= fun _ => Builtin.List.listExtendWith (.ref s.heap.objs.size) (.ref a) .none) _ _ _
  refine wpAny_bind (wpAny_updateSeq hS rfl ?_)
  have I2 := I1.lset (f := fun _ => #[]) (its := []) (its' := []) (ys := []) (t' := s.toks) upd_same hS rfl .nil (Nat.zero_le _)
  rw [upd_upd] at I2
  refine wpAny_bind (wpAny_letGo ?_)
  have ha2 : upd H s.heap.objs.size (.lst []) a = some (.ins C dx fs) := by rw [upd_ne (ne_of_none ha fr)]; exact ha
  have hq2 : ∀ ys, SqL X.K (upd H s.heap.objs.size (.lst ys)) l zs := fun ys => SqL.updn hq fr hkq
  have fr' : H q = none := by rw [← hqe]; exact fr
  have hkq' : ∀ o, X.K.lookup q ≠ some o := by rw [← hqe]; exact hkq
  rw [hqe] at *
  clear hS
  generalize ({ s with heap := _ } : Shared) = s2 at I2
  have hne : q ≠ a := ne_of upd_same ha2 (fun z => nomatch z)
  obtain ⟨mA, J, _⟩ := ins_get I2.hok ha2
  obtain ⟨od, J, _⟩ := J.look
  unfold Builtin.List.listExtendWith
  refine wpAny_bind (J.type.here ?_)
  have h1 : Builtin.List.listSameRef (.ref q) (.ref a) = false := by simp [Builtin.List.listSameRef, hne]
  have h2 : (Value.ref C == Value.type "list") = false := rfl
  have h3 : (Value.ref C == Value.type "tuple") = false := rfl
  simp only [h1, h2, h3, Bool.or_false, Bool.false_eq_true, if_false]
  refine wpAny_bind (iter_own hMI FI rfl hr.in1.in1 hb I2 ha2 hl (hq2 _) fun it s3 I3 st hf => ?_)
  have hiq : it ≠ q := fun z => by have := hf.1; rw [z, upd_same] at this; cases this
  have hf0 : FpOk X pins H it := ⟨by have := hf.1; rwa [upd_ne hiq] at this, hf.2⟩
  have I4 := I3.pinned (fp := [it]) (fun b hb => by
    have e : b = it := by simpa using hb
    subst e; exact hf) (fun b hb => by
    have e : b = it := by simpa using hb
    subst e
    obtain ⟨o, e, c, d⟩ := id st
    exact ⟨o, e, fun v z => by rw [d] at z; cases z⟩)
  refine wpAny_bind (wpAny_holding (own_hintL hML FL rfl hrl.in1.in1 hbl I4 ha2 hl (hq2 _) hz fun s4 b I4 => ?_))
  have st4 : s4.heap.IsListIter it l 0 := st.at fun o e => (I4.pin (it, o) (List.mem_append_right _ (List.mem_append_right _ (mem_pinsAt (by simp) e)))).1
  have I5 := I4.unpinned
  have hcd : (X.A.in1).handled = none := I2.ok.hd hcalm
  have hlq : q ≠ l := fun z => by
    rcases hq with h | ⟨o, _, _, h, _⟩
    · rw [← z] at h
      rcases h with h | ⟨_, h⟩ <;> rw [fr'] at h <;> cases h
    · rw [← z] at h; exact hkq' _ h
  have fin : ∀ s' : Shared, Inv X pins σ (upd H q (.lst [])) s' → s'.heap.IsListIter it l 0 → codeAny (model X.prog X.w) X.A.in1 (.builtin "list.extend.loop" ⟨[.ref q, .ref it, .none], []⟩) (wants (fun r s₂ => r = .none ∧ EP X pins σ Q (.ref q) s₂) X.xe) s' := fun s' I' st' =>
    ext_loop (A1 := X.A.in1) hcd hlq hiq (fun s'' I'' => ⟨rfl, .ref q, _, I'', rfl, qq q fr'⟩) hf0 hq2 hz _ 0 s' rfl (Nat.zero_le _) (by simpa using I') st'
  obtain ⟨z, its, k, r3, hl3, e3⟩ := I5.lstM upd_same
  cases r3
  refine wpAny_ite_split (fun _ => ?_) (fun _ => wpAny_pure ⟨plainId_quiet PySem.F.plain_extend_loop _, fin s4 I5 st4⟩)
  refine wpAny_bind (wpAny_rule ?_)
  refine wpAny_bind ?_
  show wpAny _ _ (updateSeq q (·.push .none) >>= fun _ => updateSeq q (·.pop)) _ _ _
  refine wpAny_bind (wpAny_updateSeq e3 rfl ?_)
  have I6 := I5.lset (f := (·.push Value.none)) (its' := [Value.none]) (ys := [.non]) (t' := s4.toks) upd_same e3 (by simp) (.cons rfl .nil) (by rw [List.length_singleton, sizeLine_eq]; decide)
  obtain ⟨z4, its4, k4, r4, hl4, e4⟩ := I6.lstM upd_same
  obtain ⟨u4, rfl, ru4⟩ := r4.one
  refine wpAny_updateSeq e4 rfl ?_ (by show 1 ≤ sizeLine; rw [sizeLine_eq]; decide) (by show 0 ≤ sizeLine + 1; exact Nat.zero_le _)
  have I7 := I6.lset (f := (·.pop)) (its := [u4]) (its' := []) (ys := []) (t' := s4.toks) upd_same e4 (by rfl) .nil (Nat.zero_le _)
  rw [upd_upd, upd_upd] at I7
  exact wpAny_pure ⟨plainId_quiet PySem.F.plain_extend_loop _, fin _ I7 (st4.at fun o e => (Heap.get?_update_other _ _ fun z => hiq z.symm).trans ((Heap.get?_update_other _ _ fun z => hiq z.symm).trans e))⟩
end
end VI
namespace VI
open PySem PySem.Spec PyProof.Rows L2
section
variable {X : Cx} {cl : Tb} {c : Nat} {f fl : Addr} {fd fdl : FuncData} {ps psl : List Str} {k kl : Nat} {fld : Str}
def fldL (c : Nat) (fld : Str) : D → Option (List D)
  | .obj _ c' fs xs => if c' = c then ((fs.zip xs).lookup fld).bind fun d => match d with
    | .lst _ ys => some ys
    | _ => none
    else none
  | _ => none
def lenF (c : Nat) (fld : Str) : List D → Option D
  | [y] => (fldL c fld y).bind fun ys => if ys.length ≤ 100000 then some (.int (ys.length : Nat)) else none
  | _ => none
def lstF (c : Nat) (fld : Str) : List D → Option D
  | [y] => (fldL c fld y).bind fun ys => if ys.length ≤ 100000 ∧ D.plainL ys = true then some (.lst true ys) else none
  | _ => none
theorem fldL_view {cl : Nat → Addr} {B H : Hp} {d : D} {v : V} {fp : List Addr} {ys : List D} (h : fldL c fld d = some ys) (s : BLe B H) (r : Rep X.K cl B H d v fp) :
    ∃ a dx fs l zs g, v = .ref a ∧ H a = some (.ins (cl c) dx fs) ∧ fs.lookup fld = some (.ref l) ∧ SqL X.K H l zs ∧ RepL X.K cl B H ys zs g := by
  cases d <;> simp only [fldL] at h <;> try (cases h; done)
  split at h
  · rename_i hc
    subst hc
    simp only [Option.bind_eq_some_iff] at h
    obtain ⟨y, hy, h2⟩ := h
    obtain ⟨a, dx, vs, fq, e1, q1, l, q2⟩ := r.obj_view s
    obtain ⟨w, f', k1, k2, _⟩ := zip_fld l q2 hy
    split at h2
    · rename_i ys
      cases h2
      obtain ⟨a2, us, fq, e2, q3, q4⟩ := k2.lst_view s
      subst e2
      exact ⟨a, dx, _, a2, us, fq, e1, q1, k1, .of q3, q4.1⟩
    · cases h2
  · cases h
def rLenF (K : PySem.W.Frag) (C : Addr) (fld : Str) : List V → Hp → VK → Prop := fun xs H Q => ∃ a dx fs l zs, xs = [.ref a] ∧ H a = some (.ins C dx fs) ∧ fs.lookup fld = some (.ref l) ∧ SqL K H l zs ∧ zs.length ≤ 100000 ∧ Q (.int (zs.length : Nat)) H
theorem call_lenF {C : Addr} (hM : Meth X.K C "__len__" fl) (F : FnOk X.prog X.w X.K X.mg X.base CX0 kl fl fdl psl (spLn X.K C fld)) (hr : Room (kl + 1) X.A) (hb : Binds X.K fdl psl []) : CallR X (.builtin "len") (rLenF X.K C fld) := by
  intro pins s σ H xs us Q I rv h
  obtain ⟨a, dx, fs, l, zs, rfl, ha, hl, hq, hz, q⟩ := h
  obtain ⟨u, rfl, ru⟩ := rv.one
  cases ru
  exact len_own hM F rfl hr hb I ha hl hq hz fun s' t I' => ⟨V.int (zs.length : Nat), H, I', ⟨t, rfl⟩, q⟩
theorem lenF_ok : CallD X cl (rLenF X.K (cl c) fld) (lenF c fld) := by
  intro B H ds d vs fp s r h Q q
  unfold lenF at h
  split at h
  · simp only [Option.bind_eq_some_iff] at h
    obtain ⟨ys, h1, h2⟩ := h
    split at h2
    · rename_i hz
      cases h2
      obtain ⟨v, rfl, r1⟩ := repL_one r
      obtain ⟨a, dx, fs, l, zs, g, rfl, ha, hl, hq, rl⟩ := fldL_view h1 s r1
      have e := rl.length
      exact ⟨a, dx, fs, l, zs, rfl, ha, hl, hq, by rw [← e]; exact hz, q _ B H [] (New.refl s) (by rw [e]; exact rep_int) Fresh.nil⟩
    · cases h2
  · cases h
theorem lstF_ok : CallD X cl (rLstOwn X.K (cl c) fld) (lstF c fld) := by
  intro B H ds d vs fp s r h Q q
  unfold lstF at h
  split at h
  · simp only [Option.bind_eq_some_iff] at h
    obtain ⟨ys, h1, h2⟩ := h
    split at h2
    · rename_i hz
      obtain ⟨hz, hp⟩ := hz
      cases h2
      obtain ⟨v, rfl, r1⟩ := repL_one r
      obtain ⟨a, dx, fs, l, zs, g, rfl, ha, hl, hq, rl⟩ := fldL_view h1 s r1
      have e := rl.length
      have hg := RepL.plain hp rl
      subst hg
      refine ⟨a, dx, fs, l, zs, rfl, ha, hl, hq, by rw [← e]; exact hz, fun p hp' => ?_⟩
      have nn := New.own (o := .lst zs) s.toBLe hp'
      refine q _ B _ [p] nn ?_ (fresh_one s hp')
      simp only [Rep]
      exact ⟨p, zs, [], rfl, upd_same, rl.news nn, rfl⟩
    · cases h2
  · cases h
end
end VI
set_option Elab.async false
set_option linter.all false
set_option maxRecDepth 100000
set_option autoImplicit false
namespace VI
open PySem PySem.Spec PyProof.Rows L2 He
theorem vals_txt : ∀ {vs : List Value} {ts : List Str}, vs.map txtOf = ts.map some → Vals (ts.map V.str) vs
  | [], [], _ => .nil
  | [], _ :: _, h => by cases h
  | _ :: _, [], h => by cases h
  | v :: vs, t :: ts, h => by
    rw [List.map_cons, List.map_cons] at h
    injection h with h1 h2
    refine .cons ?_ (vals_txt h2)
    cases v <;> simp only [txtOf] at h1 <;> try (cases h1; done)
    cases h1
    exact ⟨_, rfl⟩
section
variable {fa : List Fa} {fn : List DefD} {us : List (Str × List Str)} {K : PySem.W.Frag} {h : Heap} {mg : Str → Option Value}
theorem SaysU.d (c : SaysU fa fn us K) : SaysD fa fn K := congrArg (fun z : AlU => z.1) c
theorem SaysU.fact (c : SaysU fa fn us K) (i : Nat) {f : Fa} (h : fa[i]? = some f := by rfl) : f.ok K = true := c.d.fact i h
theorem SaysU.def_ (c : SaysU fa fn us K) (i : Nat) {d : DefD} (h : fn[i]? = some d := by rfl) : ∃ fd, FunD K d.name d.qual d.params d.body d.scope (d.dvs K) (d.kws K) (fAd K d.at_) fd := c.d.def_ i h
theorem SaysU.tup (c : SaysU fa fn us K) (KX : K.In h) (G : h.Ns mainGlobals mg) (i : Nat) {x : Str} {ts : List Str} (hu : us[i]? = some (x, ts) := by rfl) (hl : ts.length ≤ 1000 := by decide) : ∃ a, mg x = some (.ref a) ∧ ∀ H, SqT K H a (ts.map V.str) := by
  have e : us.map (fun u => tupW K u.1) = us.map fun u => some (u.2.map some) := congrArg (fun z : AlU => z.2) c
  have e2 : (us.map (fun u => tupW K u.1))[i]? = (us.map fun u => some (u.2.map some))[i]? := by rw [e]
  rw [List.getElem?_map, List.getElem?_map, hu] at e2
  have e3 : tupW K x = some (ts.map some) := Option.some.inj e2
  unfold tupW at e3
  split at e3
  · rename_i a hn
    split at e3
    · rename_i c dd its n sl hk
      split at e3
      · rename_i hc
        subst hc
        have e4 : its.toList.map txtOf = ts.map some := Option.some.inj e3
        have hlen : its.size = ts.length := by have := congrArg List.length e4; simpa using this
        exact ⟨a, PySem.W.mg_of KX G hn, fun H => .inr ⟨_, its, n, hk, rfl, rfl, by rw [hlen, sizeLine_eq]; omega, vals_txt e4⟩⟩
      · cases e3
    · cases e3
  · cases e3
end
section
variable {X : Cx} {cl : Tb} {x : Str} {pos : Pos}
end
end VI
set_option Elab.async false
set_option linter.all false
set_option maxRecDepth 100000
set_option autoImplicit false
namespace VI
open PySem PySem.Spec PyProof.Rows L2
section
variable {X : Cx} {pins : List (Addr × Obj)} {σ : L2.St} {H : Hp} {s : Shared} {a : Addr}
end
section
variable {X : Cx} {cl : Tb} {mu : List Nat} {e o : Expr} {apos cpos : Pos} {p : Pl}
end
section
variable {K : PySem.W.Frag} {cl : Tb} {H : Hp}
end
end VI
set_option Elab.async false
set_option linter.all false
set_option maxRecDepth 100000
set_option autoImplicit false
namespace VI
open PySem PySem.Spec PyProof.Rows L2
section
variable {X : Cx} {C f : Addr} {fld : Str} {e : Expr} {te : TE} {p apos cpos pos p1 p3 p4 p5 p6 : Pos}
end
section
variable {X : Cx} {pins : List (Addr × Obj)} {σ : L2.St} {H : Hp} {s : Shared} {C f : Addr} {fd : FuncData} {ps : List Str} {k : Nat} {fld : Str}
end
section
variable {X : Cx} {cl : Tb} {c : Nat} {f : Addr} {fd : FuncData} {ps : List Str} {k : Nat} {fld : Str}
end
end VI
set_option Elab.async false
set_option linter.all false
set_option maxRecDepth 100000
set_option autoImplicit false
namespace VI
open PySem L2
section
variable {X : Cx} {cl : Tb} {e o : Expr} {me mo : Ev → Option D} {apos pos : Pos}
end
end VI
set_option Elab.async false
set_option linter.all false
set_option maxRecDepth 100000
set_option autoImplicit false
namespace VI
open PySem L2
section
variable {K : PySem.W.Frag} {cl : Tb} {B0 H0 B H : Hp} {d : D} {v : V} {fq : List Addr} {g : List D → Option (D × Ev)} {E : XK}
end
section
variable {X : Cx} {cl : Tb} {e : Expr} {me : Ev → Option D} {x : Str} {p pos : Pos} {f : Addr} {fd : FuncData} {ps : List Str} {k : Nat} {g : List D → Option (D × Ev)}
end
end VI
set_option Elab.async false
set_option linter.all false
set_option maxRecDepth 100000
set_option autoImplicit false
namespace VI
open PySem L2
section
variable {K : PySem.W.Frag} {cl : Tb} {G : GS} {B H B' H' : Hp} {σ σ' : St} {A A' : Ev} {F F' : Nat → List Addr} {d : D} {v : V} {fp : List Addr}
def allF (A : Ev) (F : Nat → List Addr) : List Addr := (List.range A.length).flatMap F
theorem Good.mem_all (g : Good K cl G B H σ A F) {i : Nat} {a : Addr} (h : a ∈ F i) : a ∈ allF A F := by
  by_cases hi : i < A.length
  · exact List.mem_flatMap.mpr ⟨i, List.mem_range.mpr hi, h⟩
  · rw [g.emp i fun d e => by rw [List.getElem?_eq_none (by omega)] at e; cases e] at h; cases h
theorem all_mem {a : Addr} (h : a ∈ allF A F) : ∃ i, a ∈ F i := let ⟨i, _, z⟩ := List.mem_flatMap.mp h; ⟨i, z⟩
def parkG (G : GS) (B H : Hp) (A : Ev) (F : Nat → List Addr) : GS := ⟨H, B, allF A F, G.kp, G.lk⟩
theorem Good.park (g : Good K cl G B H σ A F) : Good K cl (parkG G B H A F) B H σ A F :=
  ⟨g.sub, g.len, g.at_, g.emp, g.nd, g.dis, g.nb, BEx.refl B, fun a o _ e _ => .inl e, TKC.refl g.tk.tab, fun i a z => .inl (g.mem_all z), fun a e => .inl e, g.keep, g.lkd, g.hx⟩
theorem Good.unpark (g0 : Good K cl G B H σ A F) (g : Good K cl (parkG G B H A F) B' H' σ' A' F') : Good K cl G B' H' σ' A' F' where
  sub := g.sub
  len := g.len
  at_ := g.at_
  emp := g.emp
  nd := g.nd
  dis := g.dis
  nb := g.nb
  le0 := g0.le0.trans g.le0
  tk := g0.tk.trans g.tk.toTK
  fr := fun a o nt e hs => by
    rcases g0.fr a o nt e hs with h | h
    · refine g.fr a o nt h fun z => ?_
      obtain ⟨i, z⟩ := all_mem z
      rcases g0.own i a z with q | q
      · exact hs q
      · rw [q] at e; cases e
    · exact .inr h
  own := fun i a z => by
    rcases g.own i a z with h | h
    · obtain ⟨j, y⟩ := all_mem h; exact g0.own j a y
    · exact g0.free h
  bnew := fun a e => by
    rcases g.bnew a e with h | h | h
    · exact g0.bnew a h
    · exact .inr (g0.freeT h)
    · obtain ⟨j, y⟩ := all_mem h
      rcases g0.own j a y with q | q
      · exact .inr (.inr q)
      · exact .inr (.inl (.inl q))
  keep := g.keep
  lkd := g.lkd
  hx := g.hx
theorem Good.held (g0 : Good K cl G B H σ A F) (r : Rep K cl B H d v fp) (w : Own G B F fp) (g : Good K cl (parkG G B H A F) B' H' σ' A' F') : Rep K cl B' H' d v fp ∧ Own G B' F' fp ∧ (∀ a ∈ fp, H' a = H a) ∧ ∀ a ∈ fp, ∀ fq, Own (parkG G B H A F) B' F' fq → a ∉ fq := by
  have off : ∀ a ∈ fp, a ∉ allF A F := fun a z y => by obtain ⟨i, y⟩ := all_mem y; exact w.dis i a z y
  have same : ∀ a ∈ fp, H' a = H a := fun a z => by
    obtain ⟨o, e, k⟩ := r.stand' a z
    rcases g.fr a o (NT.own k) e (off a z) with h | ⟨p, hp, e1, e2⟩
    · rw [h, e]
    · have := g0.lkd p hp
      rw [e1, e] at this
      cases this
      cases k
  have nb : ∀ a ∈ fp, B' a = none := fun a z => by
    cases q : B' a with
    | none => rfl
    | some u =>
      obtain ⟨o, e, k⟩ := r.stand' a z
      rcases g.bnew a (by rw [q]; exact fun e => nomatch e) with h | h | h
      · exact absurd (w.nb a z) h
      · exact (fot_own h e k).elim
      · exact absurd h (off a z)
  refine ⟨r.mono g.le0.le same, ⟨w.nd, nb, w.own, fun i a z y => ?_⟩, same, fun a z fq ow y => ?_⟩
  · rcases g.own i a y with h | h
    · exact off a z h
    · obtain ⟨o, e⟩ := r.stand a z
      have h : H a = none := h
      rw [e] at h; cases h
  · rcases ow.own a y with h | h
    · exact off a z h
    · obtain ⟨o, e⟩ := r.stand a z
      have h : H a = none := h
      rw [e] at h; cases h
theorem Own.unpark (g0 : Good K cl G B H σ A F) (w : Own (parkG G B H A F) B' F' fp) : Own G B' F' fp := ⟨w.nd, w.nb, fun a z => by
  rcases w.own a z with h | h
  · obtain ⟨j, y⟩ := all_mem h; exact g0.own j a y
  · exact g0.free h, w.dis⟩
theorem Own.app {fq : List Addr} (w : Own G B F fp) (w2 : Own G B F fq) (h : ∀ a ∈ fp, a ∉ fq) : Own G B F (fp ++ fq) :=
  ⟨List.nodup_append.mpr ⟨w.nd, w2.nd, fun a z b y e => h a z (e ▸ y)⟩, fun a z => (List.mem_append.mp z).elim (w.nb a) (w2.nb a), fun a z => (List.mem_append.mp z).elim (w.own a) (w2.own a), fun i a z => (List.mem_append.mp z).elim (w.dis i a) (w2.dis i a)⟩
end
section
variable (X : Cx) (cl : Tb) (mu : List Nat)
def VA (es : List Expr) (m : Ev → Option (List D × Ev)) : Prop := ∃ t : TA, PA X es t ∧ ∀ (G : GS) σ A B H F, (∀ p ∈ G.kp, p.1 ∈ mu) → Good X.K cl G B H σ A F → ∀ ds A', m A = some (ds, A') →
  ∀ Q : List V → Hp → Prop, (∀ vs B' H' F' fp, Good X.K cl G B' H' σ A' F' → RepL X.K cl B' H' ds vs fp → Own G B' F' fp → Q vs H') → t σ H Q
end
def mENil : Ev → Option (List D × Ev) := fun A => some ([], A)
def mECons (m1 : Ev → Option (D × Ev)) (m2 : Ev → Option (List D × Ev)) : Ev → Option (List D × Ev) := fun A => (m1 A).bind fun r => (m2 r.2).map fun s => (r.1 :: s.1, s.2)
def mTake (i : Nat) : Ev → Option (D × Ev) := fun A => A[i]?.join.map fun d => (d, A.set i none)
def mLook (m : Ev → Option D) : Ev → Option (D × Ev) := fun A => (m A).map fun d => (d, A)
def mTupE (ms : Ev → Option (List D × Ev)) : Ev → Option (D × Ev) := fun A => (ms A).bind fun r => if r.1.length ≤ 1000 then some (.tup r.1, r.2) else none
section
variable {X : Cx} {cl : Tb} {mu : List Nat} {e a b : Expr} {es : List Expr} {x : Str} {p pos : Pos} {m1 : Ev → Option (D × Ev)} {m2 ms : Ev → Option (List D × Ev)} {me mb : Ev → Option D} {f : Addr} {fd : FuncData} {ps : List Str} {k : Nat} {g : List D → Option (D × Ev)}
theorem va_nil : VA X cl mu [] mENil := ⟨_, pa_nil, fun G σ A B H F _ gd ds A' hm Q q => by cases hm; exact q [] B H F [] gd repL_nil Own.nil⟩
theorem va_cons (h1 : VE X cl mu e m1) (h2 : VA X cl mu es m2) (hs : starEach (e :: es) X.env = (false, eval e X.env) :: starEach es X.env := by rfl) : VA X cl mu (e :: es) (mECons m1 m2) := by
  obtain ⟨t, pe, r⟩ := h1
  obtain ⟨t2, p2, r2⟩ := h2
  refine ⟨_, pa_cons pe p2 hs, fun G σ A B H F hk gd ds A' hm Q q => ?_⟩
  simp only [mECons, Option.bind_eq_some_iff, Option.map_eq_some_iff, Prod.mk.injEq] at hm
  obtain ⟨⟨d, A1⟩, h1, ⟨ds', A2⟩, h2, rfl, rfl⟩ := hm
  refine r G σ A B H F hk gd d A1 h1 _ fun v B1 H1 F1 fp g1 rp w => ?_
  refine r2 (parkG G B1 H1 A1 F1) σ A1 B1 H1 F1 hk g1.park ds' A2 h2 _ fun vs B2 H2 F2 fq g2 rq w2 => ?_
  obtain ⟨rp2, wp2, _, off⟩ := g1.held rp w g2
  exact q (v :: vs) B2 H2 F2 (fp ++ fq) (g1.unpark g2) (repL_cons rp2 rq) (wp2.app (w2.unpark g1) fun a z => off a z fq w2)
theorem ve_look (h : EvD X cl e me) : VE X cl mu e (mLook me) := VE.of h
theorem ve_take {i : Nat} (h : PE X e (tVar i)) : VE X cl mu e (mTake i) := by
  refine ⟨_, h, fun G σ A B H F hk gd d A' hm Q q => ?_⟩
  simp only [mTake, Option.map_eq_some_iff, Prod.mk.injEq] at hm
  obtain ⟨d', hd, rfl, rfl⟩ := hm
  have hd : A[i]? = some (some d') := by
    cases z : A[i]? with
    | none => rw [z] at hd; cases hd
    | some o => rw [z] at hd; exact congrArg some hd
  obtain ⟨v, hv, r⟩ := gd.at_ i d' hd
  refine ⟨v, hv, q v B H (setF F i []) (F i) gd.kill r ⟨gd.nd i, gd.nb i, gd.own i, fun j a z y => ?_⟩⟩
  by_cases hj : j = i
  · subst hj; rw [setF_same] at y; cases y
  · rw [setF_ne hj] at y; exact gd.dis i j (Ne.symm hj) a z y
theorem ve_tupE {x1} (h : VA X cl mu es ms) : VE X cl mu (.Tuple es x1 pos) (mTupE ms) := by
  obtain ⟨t, pa, r⟩ := h
  refine ⟨_, pe_tup pa, fun G σ A B H F hk gd d A' hm Q q => ?_⟩
  simp only [mTupE, Option.bind_eq_some_iff] at hm
  obtain ⟨⟨ds, A1⟩, h1, h2⟩ := hm
  split at h2
  · rename_i hl
    cases h2
    refine r G σ A B H F hk gd ds A1 h1 _ fun vs B1 H1 F1 fp g1 rp w => ?_
    have hlen := rp.length
    simp only at hl
    refine ⟨by rw [← hlen, sizeLine_eq]; omega, fun p hp => ?_⟩
    have n2 := New.told (o := .tup vs) g1.sub hp
    refine q _ _ _ F1 fp (g1.news n2) ?_ (w.news n2 rp.stand')
    simp only [Rep]
    exact ⟨p, vs, rfl, upd_same, rp.news n2⟩
  · cases h2
end
end VI
set_option Elab.async false
set_option linter.all false
set_option maxRecDepth 100000
set_option autoImplicit false
namespace VI
open PySem L2
section
variable {K : PySem.W.Frag} {cl : Tb} {G : GS} {B H B' H' : Hp} {σ σ' : St} {A A' : Ev} {F F' : Nat → List Addr}
structure LendAt (K : PySem.W.Frag) (cl : Tb) (B H : Hp) (σ : St) (A : Ev) (F : Nat → List Addr) (i : Nat) (π : List Nat) (e0 d : D) (v u : V) (l f r : List Addr) : Prop where
  hA : A[i]? = some (some d)
  hv : σ[i]? = some (some v)
  hw : walk H v π = some u
  hF : F i = l ++ f ++ r
  rep : Rep K cl B H e0 u f
  back : ∀ (B' H' : Hp) (e' : D) (f' : List Addr), BLe0 B B' → (∀ a ∈ l ++ r, H' a = H a) → Rep K cl B' H' e' u f' → Rep K cl B' H' (setP d π e') v (l ++ f' ++ r)
def LSlot (K : PySem.W.Frag) (cl : Tb) (B H : Hp) (σ : St) (A : Ev) (F : Nat → List Addr) (Z : Nat → Option (List Nat × D)) (i : Nat) (x : D × V × V × List Addr × List Addr × List Addr) : Prop := match Z i with
  | none => F i = x.2.2.2.1 ++ x.2.2.2.2.1 ++ x.2.2.2.2.2 ∧ x.2.2.2.2.1 = []
  | some (π, e0) => LendAt K cl B H σ A F i π e0 x.1 x.2.1 x.2.2.1 x.2.2.2.1 x.2.2.2.2.1 x.2.2.2.2.2
section
variable {Z : Nat → Option (List Nat × D)} {X : Nat → D × V × V × List Addr × List Addr × List Addr}
abbrev xD (X : Nat → D × V × V × List Addr × List Addr × List Addr) (i : Nat) : D := (X i).1
abbrev xU (X : Nat → D × V × V × List Addr × List Addr × List Addr) (i : Nat) : V := (X i).2.2.1
abbrev xL (X : Nat → D × V × V × List Addr × List Addr × List Addr) (i : Nat) : List Addr := (X i).2.2.2.1
abbrev xF (X : Nat → D × V × V × List Addr × List Addr × List Addr) (i : Nat) : List Addr := (X i).2.2.2.2.1
abbrev xR (X : Nat → D × V × V × List Addr × List Addr × List Addr) (i : Nat) : List Addr := (X i).2.2.2.2.2
theorem LSlot.at {i : Nat} {π : List Nat} {e0 : D} (h : LSlot K cl B H σ A F Z i (X i)) (hz : Z i = some (π, e0)) : LendAt K cl B H σ A F i π e0 (xD X i) (X i).2.1 (xU X i) (xL X i) (xF X i) (xR X i) := by
  unfold LSlot at h
  rw [hz] at h
  exact h
theorem LSlot.off {i : Nat} (h : LSlot K cl B H σ A F Z i (X i)) (hz : Z i = none) : xF X i = [] := by
  unfold LSlot at h
  rw [hz] at h
  exact h.2
end
end
abbrev PZ := Nat × Nat × List Nat × D
section
variable {K : PySem.W.Frag} {cl : Tb} {G : GS} {B H B' H' : Hp} {σ σ' : St} {A A' : Ev} {F F' : Nat → List Addr} {X : Nat → D × V × V × List Addr × List Addr × List Addr} {zs : List PZ} {ds : List D} {vs : List V} {n : Nat} {g : List D → Option (D × Ev)}
end
end VI
namespace VI
open PySem L2
section
variable {X : Cx} {cl : Tb} {mu : List Nat} {e : Expr} {es : List Expr} {x : Str} {pn pos : Pos} {me : Ev → Option D} {ms : Ev → Option (List D)} {p : Pl} {ps : List (Nat × Pl)} {f : Addr} {fd : FuncData} {pms : List Str} {k : Nat} {g : List D → Option (D × Ev)}
variable {a b : Expr} {m1 : Ev → Option (D × Ev)} {mb : Ev → Option D}
end
end VI
set_option Elab.async false
set_option linter.all false
set_option maxRecDepth 100000
set_option autoImplicit false
namespace VI
open PySem L2
def noT (H : Hp) : Hp := fun a => match H a with
  | some o => if told o = true then some o else none
  | none => none
theorem noT_some {H : Hp} {a : Addr} {o : HO} (h : noT H a = some o) : H a = some o ∧ told o = true := by
  unfold noT at h
  split at h
  · rename_i o' e
    split at h
    · rename_i w; cases h; exact ⟨e, w⟩
    · cases h
  · cases h
theorem noT_of {H : Hp} {a : Addr} {o : HO} (h : H a = some o) (w : told o = true) : noT H a = some o := by
  unfold noT; rw [h]; exact if_pos w
theorem noT_le (H : Hp) : BLe (noT H) H := by
  refine { toBLe0 := BLe.of_same fun a u e => (noT_some e).1, nt := fun a ps r => ?_ }
  rcases r with r | ⟨o, r⟩
  · have := (noT_some r).2
    cases this
  · have := (noT_some r).2
    cases this
theorem sp_law {K : PySem.W.Frag} {cl : Nat → Addr} {H : Hp} {a : Addr} {ns : List Int} {f : List D → Option (D × Ev)} {E : XK} (t : TabC cl H) (hS : SqL K H a (ns.map V.int)) (h : ∃ A, f [.scr ns] = some (.bl true, A)) : SpF K cl [] 1 f [.ref a] H (fun v _ => v = .bl true) E := by
  obtain ⟨A, h⟩ := h
  have hB : SqL K (noT H) a (ns.map V.int) := hS.imp (fun r => r.imp (fun e => noT_of e rfl) fun ⟨o, e⟩ => ⟨o, noT_of e rfl⟩) id
  have r : RepL K cl (noT H) H [.scr ns] [.ref a] [] := repL_cons (f := []) (g := []) (by simp only [Rep]; exact ⟨a, rfl, hB, trivial⟩) repL_nil
  refine ⟨rfl, noT H, [.scr ns], _, [], good0 (noT_le H) r t, _, A, h, fun σ' B' H' F' v fp g rp w => ?_⟩
  rw [rep_bl_iff] at rp
  exact rp.1
theorem FunD_uniq {K : PySem.W.Frag} {x qual : Str} {params : Arguments} {body : List Stmt} {scope : Scope} {dvs : List V} {kws : List (Str × V)} {f : Addr} {fd fd2 : FuncData} (F : FunD K x qual params body scope dvs kws f fd) (F2 : FunD K x qual params body scope dvs kws f fd2) : fd = fd2 := by
  obtain ⟨⟨oc, od, dV, kV, doc, pm, an, cdv, ct, osl, _, l, _⟩, _⟩ := F
  obtain ⟨⟨oc2, od2, dV2, kV2, doc2, pm2, an2, cdv2, ct2, osl2, _, l2, _⟩, _⟩ := F2
  rw [l] at l2
  simp only [Option.some.injEq, Obj.mk.injEq, Data.func.injEq] at l2
  exact l2.2.2.1
end VI
set_option Elab.async false
set_option linter.all false
set_option maxRecDepth 100000
set_option autoImplicit false
namespace VI
open PySem L2
section
variable {A A' : Ev} {i : Nat} {d : D} {m ma mb : Ev → Option D} {ms : Ev → Option (List D)} {f : Str} {c : Nat}
@[simp] theorem mV_eq : mV i A = A[i]?.join := (rfl)
@[simp] theorem mC_eq : mC d A = some d := (rfl)
@[simp] theorem mP_eq : mP m A = (m A).bind fun d => if d.plain = true then some d else none := (rfl)
@[simp] theorem mOp_eq {α : Type} {g : D → D → Option α} : mOp g ma mb A = (ma A).bind fun x => (mb A).bind fun y => g x y := (rfl)
@[simp] theorem mNil_eq : mNil A = some [] := (rfl)
@[simp] theorem mCons_eq : mCons m ms A = (m A).bind fun d => (ms A).map (d :: ·) := (rfl)
@[simp] theorem mCall_eq {g : List D → Option D} : mCall g ms A = (ms A).bind g := (rfl)
@[simp] theorem mLst_eq : mLst ms A = (ms A).bind fun ds => if ds.length ≤ 1000 then some (.lst true ds) else none := (rfl)
@[simp] theorem mTup_eq : mTup ms A = (ms A).bind fun ds => if ds.length ≤ 1000 then some (.tup ds) else none := (rfl)
@[simp] theorem mRecv_eq : mRecv c f m ms A = (m A).bind fun d => if isObj c f d = true then (ms A).map (d :: ·) else none := (rfl)
@[simp] theorem mAnd_eq {ta tb : Ev → Option Bool} : mAnd ta tb A = (ta A).bind fun x => if x = true then tb A else some false := (rfl)
@[simp] theorem mOr_eq {ta tb : Ev → Option Bool} : mOr ta tb A = (ta A).bind fun x => if x = true then some true else tb A := (rfl)
@[simp] theorem mNot_eq {ta : Ev → Option Bool} : mNot ta A = (ta A).map fun x => !x := (rfl)
@[simp] theorem mIf_eq {ta : Ev → Option Bool} : mIf ta ma mb A = (ta A).bind fun x => if x = true then ma A else mb A := (rfl)
@[simp] theorem mAndV_eq : mAndV ma mb A = (mT ma A).bind fun x => if x = true then mb A else some (.bl false) := (rfl)
@[simp] theorem mOrV_eq : mOrV ma mb A = (mT ma A).bind fun x => if x = true then some (.bl true) else mb A := (rfl)
@[simp] theorem mNotV_eq : mNotV ma A = (mT ma A).map fun x => .bl (!x) := (rfl)
@[simp] theorem mIsi_eq {T : String} : mIsi T m A = (m A).bind fun d => (tyD d).bind fun n => (kitB n T).map .bl := (rfl)
@[simp] theorem mTr_eq : mTr m A = (m A).bind truth := (rfl)
@[simp] theorem mRng1_eq : mRng1 ms A = (ms A).bind rangeD1 := (rfl)
@[simp] theorem mItems'_eq : mItems' m A = (m A).bind fun d => items' d.frz := (rfl)
@[simp] theorem addD_int {i j : Int} : addD (.int i) (.int j) = some (.int (i + j)) := (rfl)
@[simp] theorem subD_int {i j : Int} : subD (.int i) (.int j) = some (.int (i - j)) := (rfl)
theorem mulD_int {i j : Int} : mulD (.int i) (.int j) = if small64 i || small64 j then some (.int (i * j)) else none := (rfl)
@[simp] theorem fdivD_int {i j : Int} (h0 : 0 < j) (h : j < 1073741824) : fdivD (.int i) (.int j) = some (.int (i / j)) := by
  show (if 0 < j ∧ j.natAbs < 1073741824 then some (D.int (i / j)) else none) = _
  rw [if_pos ⟨h0, by omega⟩]
@[simp] theorem modD_int {i j : Int} (h0 : 0 < j) : modD (.int i) (.int j) = some (.int (i % j)) := by
  show (if 0 < j then some (D.int (i % j)) else none) = _
  rw [if_pos h0]
@[simp] theorem powD_int {i j : Int} (h0 : 0 ≤ j) (h1 : j ≤ 1000) (h2 : i.natAbs < 1000) : powD (.int i) (.int j) = some (.int (i ^ j.toNat)) := by
  show (if 0 ≤ j ∧ j.natAbs ≤ 1000 ∧ i.natAbs < 1000 then some (D.int (i ^ j.toNat)) else none) = _
  rw [if_pos ⟨h0, by omega, h2⟩]
@[simp] theorem addD_str {s t : Str} (h : s.length + t.length ≤ sizeLine) : addD (.str s) (.str t) = some (.str (s ++ t)) := by
  show (if s.length + t.length ≤ sizeLine then some (D.str (s ++ t)) else none) = _
  rw [if_pos h]
@[simp] theorem ltD_int {i j : Int} : ltD (.int i) (.int j) = some (.bl (decide (i < j))) := (rfl)
@[simp] theorem leD_int {i j : Int} : leD (.int i) (.int j) = some (.bl (decide (i ≤ j))) := (rfl)
@[simp] theorem geD_int {i j : Int} : geD (.int i) (.int j) = some (.bl (decide (j ≤ i))) := (rfl)
@[simp] theorem absD_int {i : Int} : absD [.int i] = some (.int (if i < 0 then -i else i)) := (rfl)
@[simp] theorem intD_int {i : Int} : intD [.int i] = some (.int i) := (rfl)
@[simp] theorem lenD_lst {b : Bool} {xs : List D} : lenD [.lst b xs] = some (.int xs.length) := (rfl)
@[simp] theorem lenD_tup {xs : List D} : lenD [.tup xs] = some (.int xs.length) := (rfl)
@[simp] theorem lenD_scr {xs : List Int} : lenD [.scr xs] = some (.int xs.length) := (rfl)
@[simp] theorem lenD_str {s : Str} : lenD [.str s] = if s.length ≤ sizeLine then some (.int s.length) else none := (rfl)
@[simp] theorem lenD_dct {b : Bool} {ks : List Key} {xs : List D} : lenD [.dct b ks xs] = some (.int ks.length) := (rfl)
@[simp] theorem subscr_lst {b : Bool} {xs : List D} {i : Int} : subscr (.lst b xs) (.int i) = atI xs i := (rfl)
@[simp] theorem subscr_tup {xs : List D} {i : Int} : subscr (.tup xs) (.int i) = atI xs i := (rfl)
@[simp] theorem subscr_scr {xs : List Int} {i : Int} : subscr (.scr xs) (.int i) = (atI xs i).map .int := (rfl)
@[simp] theorem subscr_dct {b : Bool} {ks : List Key} {xs : List D} {k : D} : subscr (.dct b ks xs) k = (keyD k).bind (look ks xs) := (rfl)
@[simp] theorem subscr_str {s : Str} {i : Int} : subscr (.str s) (.int i) = if s.length ≤ sizeLine then (atI s.cps.toList i).map fun c => .str ⟨#[c]⟩ else none := (rfl)
def kS (s : Str) : Key := Sum.inr s
@[simp] theorem keyD_str {s : Str} : keyD (.str s) = some (kS s) := (rfl)
@[simp] theorem keyD_int {s : Int} : keyD (.int s) = some (.inl s) := (rfl)
@[simp] theorem eqD_ii {a b : Int} : eqD (.int a) (.int b) = some (.bl (decide (a = b))) := by simp [eqD]
@[simp] theorem eqD_bb {a b : Bool} : eqD (.bl a) (.bl b) = some (.bl (decide (a = b))) := by simp [eqD]
@[simp] theorem eqD_ss {a b : Str} : eqD (.str a) (.str b) = some (.bl (decide (a = b))) := by simp [eqD]
@[simp] theorem neD_int {a b : Int} : neD (.int a) (.int b) = some (.bl (!decide (a = b))) := by simp [neD]
@[simp] theorem neD_bl {a b : Bool} : neD (.bl a) (.bl b) = some (.bl (!decide (a = b))) := by simp [neD]
@[simp] theorem neD_str {a b : Str} : neD (.str a) (.str b) = some (.bl (!decide (a = b))) := by simp [neD]
@[simp] theorem truth_bl {b : Bool} : truth (.bl b) = some b := (rfl)
@[simp] theorem tyD_int {i : Int} : tyD (.int i) = some "int" := (rfl)
@[simp] theorem tyD_bl {i : Bool} : tyD (.bl i) = some "bool" := (rfl)
@[simp] theorem tyD_str {i : Str} : tyD (.str i) = some "str" := (rfl)
@[simp] theorem tyD_non : tyD .non = some "NoneType" := (rfl)
@[simp] theorem tyD_tup {i : List D} : tyD (.tup i) = some "tuple" := (rfl)
@[simp] theorem tyD_lst {b : Bool} {i : List D} : tyD (.lst b i) = some "list" := (rfl)
@[simp] theorem kit_ii : kitB "int" "int" = some true := by decide +kernel
@[simp] theorem kit_ib : kitB "int" "bool" = some false := by decide +kernel
@[simp] theorem kit_bi : kitB "bool" "int" = some true := by decide +kernel
@[simp] theorem kit_bb : kitB "bool" "bool" = some true := by decide +kernel
@[simp] theorem kit_tt : kitB "tuple" "tuple" = some true := by decide +kernel
@[simp] theorem kit_ll : kitB "list" "list" = some true := by decide +kernel
@[simp] theorem kit_ss : kitB "str" "str" = some true := by decide +kernel
end
end VI
namespace VI
open PySem L2
@[simp] theorem frz_int {i : Int} : (D.int i).frz = .int i := (rfl)
@[simp] theorem frz_bl {i : Bool} : (D.bl i).frz = .bl i := (rfl)
@[simp] theorem frz_str {i : Str} : (D.str i).frz = .str i := (rfl)
@[simp] theorem frz_non : D.non.frz = .non := (rfl)
@[simp] theorem frz_scr {i : List Int} : (D.scr i).frz = .scr i := (rfl)
@[simp] theorem frz_tup {xs : List D} : (D.tup xs).frz = .tup (D.frzL xs) := (rfl)
@[simp] theorem frz_lst {b : Bool} {xs : List D} : (D.lst b xs).frz = .lst false (D.frzL xs) := (rfl)
@[simp] theorem frz_dct {b : Bool} {ks : List Key} {xs : List D} : (D.dct b ks xs).frz = .dct false ks (D.frzL xs) := (rfl)
@[simp] theorem frz_dtt {b : Bool} {ks : List (List Key)} {xs : List D} : (D.dtt b ks xs).frz = .dtt false ks (D.frzL xs) := (rfl)
@[simp] theorem frz_obj {b : Bool} {c : Nat} {fs : List Str} {xs : List D} : (D.obj b c fs xs).frz = .obj false c fs (D.frzL xs) := (rfl)
@[simp] theorem frzL_nil : D.frzL [] = [] := (rfl)
@[simp] theorem frzL_cons {x : D} {xs : List D} : D.frzL (x :: xs) = x.frz :: D.frzL xs := (rfl)
@[simp] theorem frzL_ints {α : Type} {f : α → Int} {xs : List α} : D.frzL (xs.map fun x => D.int (f x)) = xs.map fun x => D.int (f x) := by induction xs with | nil => rfl | cons x xs ih => simp [ih]
@[simp] theorem frzL_int {xs : List Int} : D.frzL (xs.map D.int) = xs.map D.int := by induction xs with | nil => rfl | cons x xs ih => simp [ih]
@[simp] theorem frzL_str {xs : List Str} : D.frzL (xs.map D.str) = xs.map D.str := by induction xs with | nil => rfl | cons x xs ih => simp [ih]
@[simp] theorem frzL_bl {xs : List Bool} : D.frzL (xs.map D.bl) = xs.map D.bl := by induction xs with | nil => rfl | cons x xs ih => simp [ih]
theorem frzL_map {α : Type} {g : α → D} {xs : List α} : D.frzL (xs.map g) = xs.map fun x => (g x).frz := by induction xs with | nil => rfl | cons x xs ih => simp [ih]
@[simp] theorem plain_int {i : Int} : (D.int i).plain = true := (rfl)
@[simp] theorem plain_bl {i : Bool} : (D.bl i).plain = true := (rfl)
@[simp] theorem plain_str {i : Str} : (D.str i).plain = true := (rfl)
@[simp] theorem plain_non : D.non.plain = true := (rfl)
@[simp] theorem plain_scr {i : List Int} : (D.scr i).plain = true := (rfl)
@[simp] theorem plain_tup {xs : List D} : (D.tup xs).plain = D.plainL xs := (rfl)
@[simp] theorem plain_lst {b : Bool} {xs : List D} : (D.lst b xs).plain = !b := (rfl)
@[simp] theorem plain_dct {b : Bool} {ks : List Key} {xs : List D} : (D.dct b ks xs).plain = !b := (rfl)
@[simp] theorem plain_dtt {b : Bool} {ks : List (List Key)} {xs : List D} : (D.dtt b ks xs).plain = !b := (rfl)
@[simp] theorem plain_obj {b : Bool} {c : Nat} {fs : List Str} {xs : List D} : (D.obj b c fs xs).plain = !b := (rfl)
@[simp] theorem plainL_nil : D.plainL [] = true := (rfl)
@[simp] theorem plainL_cons {x : D} {xs : List D} : D.plainL (x :: xs) = (x.plain && D.plainL xs) := (rfl)
@[simp] theorem plainL_int {xs : List Int} : D.plainL (xs.map D.int) = true := by induction xs with | nil => rfl | cons x xs ih => simp [ih]
@[simp] theorem plainL_str {xs : List Str} : D.plainL (xs.map D.str) = true := by induction xs with | nil => rfl | cons x xs ih => simp [ih]
@[simp] theorem plainL_bl {xs : List Bool} : D.plainL (xs.map D.bl) = true := by induction xs with | nil => rfl | cons x xs ih => simp [ih]
@[simp] theorem clean_int {i : Int} : (D.int i).clean = true := (rfl)
@[simp] theorem clean_bl {i : Bool} : (D.bl i).clean = true := (rfl)
@[simp] theorem clean_str {i : Str} : (D.str i).clean = true := (rfl)
@[simp] theorem clean_non : D.non.clean = true := (rfl)
@[simp] theorem clean_tup {xs : List D} : (D.tup xs).clean = D.cleanL xs := (rfl)
@[simp] theorem clean_lst {b : Bool} {xs : List D} : (D.lst b xs).clean = (b && D.cleanL xs) := (rfl)
@[simp] theorem clean_dct {b : Bool} {ks : List Key} {xs : List D} : (D.dct b ks xs).clean = (b && D.cleanL xs) := (rfl)
@[simp] theorem clean_dtt {b : Bool} {ks : List (List Key)} {xs : List D} : (D.dtt b ks xs).clean = (b && D.cleanL xs) := (rfl)
@[simp] theorem clean_obj {b : Bool} {c : Nat} {fs : List Str} {xs : List D} : (D.obj b c fs xs).clean = (b && D.cleanL xs) := (rfl)
@[simp] theorem cleanL_nil : D.cleanL [] = true := (rfl)
@[simp] theorem cleanL_cons {x : D} {xs : List D} : D.cleanL (x :: xs) = (x.clean && D.cleanL xs) := (rfl)
@[simp] theorem cleanL_int {xs : List Int} : D.cleanL (xs.map D.int) = true := by induction xs with | nil => rfl | cons x xs ih => simp [ih]
@[simp] theorem cleanL_str {xs : List Str} : D.cleanL (xs.map D.str) = true := by induction xs with | nil => rfl | cons x xs ih => simp [ih]
@[simp] theorem cleanL_bl {xs : List Bool} : D.cleanL (xs.map D.bl) = true := by induction xs with | nil => rfl | cons x xs ih => simp [ih]
section
variable {A : Ev} {m : Ev → Option D}
variable {m1 m2 : SM} {o : SOut} {d : D} {A' : Ev} {i : Nat} {me : Ev → Option D}
@[simp] theorem sNx_eq : sNx A = some (.nx A) := (rfl)
@[simp] theorem sIf_eq {t : Ev → Option Bool} : sIf t m1 m2 A = (t A).bind fun b => if b = true then m1 A else m2 A := (rfl)
@[simp] theorem sAsg_eq : sAsg i me A = (me A).bind fun d => if i < A.length then some (.nx (A.set i (some d))) else none := (rfl)
@[simp] theorem sAsgG_eq {g : D → Ev → Option Ev} : sAsgG g me A = (me A).bind fun d => (g d.frz A).map .nx := (rfl)
@[simp] theorem sRet_eq : sRet me A = (me A).map fun d => .rt d A := (rfl)
@[simp] theorem sExp_eq : sExp me A = (me A).map fun _ => .nx A := (rfl)
@[simp] theorem sEff_eq {m : Ev → Option (D × Ev)} : sEff m A = (m A).map fun r => .nx r.2 := (rfl)
@[simp] theorem sEffR_eq {m : Ev → Option (D × Ev)} : sEffR m A = (m A).map fun r => .rt r.1 r.2 := (rfl)
@[simp] theorem bMeth1_eq {p : Pl} {op : D → D → Option (D × D)} : bMeth1 p me op A = (p A).bind fun z => (me A).bind fun y => (op z.2.2 y).map fun r => (r.1, updP A z.1 z.2.1 r.2) := (rfl)
@[simp] theorem opAppend_eq {xs : List D} {y : D} : opAppend (.lst true xs) y = if xs.length < 1000000 then some (.non, .lst true (xs ++ [y])) else none := (rfl)
@[simp] theorem tgN_eq : tgN i d A = if i < A.length then some (A.set i (some d)) else none := (rfl)
end
section
variable {bd : D → Ev → Option SOut}
end
def Gives (f : List D → Option (D × Ev)) (ds : List D) (r : D) : Prop := ∃ A, f ds = some (r, A)
def GivesL (f : List D → Option (D × Ev)) (q : Nat) (ds : List D) (r e : D) : Prop := ∃ A, f ds = some (r, A) ∧ A[q]? = some (some e)
section
variable {n N : Nat} {m : SM} {ds : List D} {r e : D} {A A' : Ev}
theorem gives_rt (hl : ds.length = n) (h : m (ds.map some ++ List.replicate (N - n) none) = some (.rt r A)) : runF n N m ds = some (r, A) := by simp [runF, hl, h]
theorem Gives.rt (hl : ds.length = n) (h : ∃ A, m (ds.map some ++ List.replicate (N - n) none) = some (.rt r A)) : Gives (runF n N m) ds r := let ⟨A, h⟩ := h; ⟨A, gives_rt hl h⟩
theorem gives_nx (hl : ds.length = n) (h : m (ds.map some ++ List.replicate (N - n) none) = some (.nx A)) : runF n N m ds = some (.non, A) := by simp [runF, hl, h]
end
section
variable {n N q : Nat} {m : SM} {ds : List D} {r e : D}
theorem Gives.nx (hl : ds.length = n) (h : ∃ A, m (ds.map some ++ List.replicate (N - n) none) = some (.nx A)) : Gives (runF n N m) ds .non := let ⟨A, h⟩ := h; ⟨A, gives_nx hl h⟩
theorem GivesL.rt (hl : ds.length = n) (h : ∃ A, m (ds.map some ++ List.replicate (N - n) none) = some (.rt r A) ∧ A[q]? = some (some e)) : GivesL (runF n N m) q ds r e := let ⟨A, h, h2⟩ := h; ⟨A, gives_rt hl h, h2⟩
theorem GivesL.nx (hl : ds.length = n) (h : ∃ A, m (ds.map some ++ List.replicate (N - n) none) = some (.nx A) ∧ A[q]? = some (some e)) : GivesL (runF n N m) q ds .non e := let ⟨A, h, h2⟩ := h; ⟨A, gives_nx hl h, h2⟩
end
@[simp] theorem frzL_len {xs : List D} : (D.frzL xs).length = xs.length := D.frzL_length xs
theorem atI_nat {α : Type} {xs : List α} {k : Nat} (h : k < xs.length) : atI xs (k : Int) = xs[k]? := by
  unfold atI ixN
  rw [if_pos (by omega), if_pos (by omega)]
  simp
end VI
namespace VI
open PySem L2
end VI
set_option Elab.async false
set_option linter.all false
set_option maxRecDepth 100000
set_option autoImplicit false
namespace VI
open PySem L2
def andThen (o : Option SOut) (m : SM) : Option SOut := match o with
  | some (.nx A) => m A
  | r => r
section
variable {A : Ev} {m m1 m2 : SM} {d : D} {is : List Nat} {o : Option SOut}
@[simp] theorem sSeq_run : sSeq m1 m2 A = andThen (m1 A) m2 := (rfl)
@[simp] theorem andThen_nx : andThen (some (.nx A)) m = m A := (rfl)
@[simp] theorem andThen_rt : andThen (some (.rt d A)) m = some (.rt d A) := (rfl)
@[simp] theorem andThen_bk : andThen (some (.bk A)) m = some (.bk A) := (rfl)
@[simp] theorem andThen_ct : andThen (some (.ct A)) m = some (.ct A) := (rfl)
@[simp] theorem andThen_ite {c : Prop} [Decidable c] {a b : Option SOut} : andThen (if c then a else b) m = if c then andThen a m else andThen b m := by split <;> rfl
def kOut (is : List Nat) (o : Option SOut) : Option SOut := match o with
  | some (.nx A) => some (.nx (killA is A))
  | r => r
@[simp] theorem sKill_run : sKill is m A = kOut is (m A) := (rfl)
@[simp] theorem kOut_nx : kOut is (some (.nx A)) = some (.nx (killA is A)) := (rfl)
@[simp] theorem kOut_rt : kOut is (some (.rt d A)) = some (.rt d A) := (rfl)
@[simp] theorem kOut_bk : kOut is (some (.bk A)) = some (.bk A) := (rfl)
@[simp] theorem kOut_ct : kOut is (some (.ct A)) = some (.ct A) := (rfl)
@[simp] theorem kOut_ite {c : Prop} [Decidable c] {a b : Option SOut} : kOut is (if c then a else b) = if c then kOut is a else kOut is b := by split <;> rfl
@[simp] theorem killA_nil : killA [] A = A := (rfl)
@[simp] theorem killA_cons {i : Nat} : killA (i :: is) A = killA is (A.set i none) := (rfl)
@[simp] theorem sFrz_run {i : Nat} : sFrz i m A = A[i]?.join.bind fun d => m (A.set i (some d.frz)) := by
  unfold sFrz
  cases h : A[i]? with
  | none => rfl
  | some o => cases o <;> rfl
@[simp] theorem sRetV_run {i : Nat} : sRetV i A = A[i]?.join.map fun d => .rt d (A.set i none) := by
  unfold sRetV
  cases h : A[i]? with
  | none => rfl
  | some o => cases o <;> rfl
@[simp] theorem pN_run {i : Nat} : pN i A = A[i]?.join.map fun d => (i, [], d) := by
  unfold pN
  cases h : A[i]? with
  | none => rfl
  | some o => cases o <;> rfl
@[simp] theorem mT_run {m : Ev → Option D} : mT m A = (m A).bind fun d => match d with | .bl b => some b | _ => none := by
  unfold mT
  cases m A with
  | none => rfl
  | some d => cases d <;> rfl
def chD (g : Option D) (k : Option D) : Option D := match g with
  | some (.bl true) => k
  | some (.bl false) => some (.bl false)
  | _ => none
@[simp] theorem chD_bl {b : Bool} {k : Option D} : chD (some (.bl b)) k = if b = true then k else some (.bl false) := by cases b <;> rfl
@[simp] theorem mCh_run {g g' : D → D → Option D} {ma mb mc : Ev → Option D} : mCh g g' ma mb mc A = (ma A).bind fun x => (mb A).bind fun y => chD (g x y) ((mc A).bind fun z => g' y z) := by
  unfold mCh chD
  rfl
def fldD (c : Nat) (f : Str) : D → Option D
  | .obj _ c' fs xs => if c' = c then (fs.zip xs).lookup f else none
  | _ => none
@[simp] theorem mFld_run {c : Nat} {f : Str} {m : Ev → Option D} : mFld c f m A = (m A).bind (fldD c f) := by
  unfold mFld
  cases m A with
  | none => rfl
  | some d => cases d <;> rfl
@[simp] theorem updP_zero {π : List Nat} {d e : D} : updP (some d :: A) 0 π e = some (setP d π e) :: A := (rfl)
@[simp] theorem updP_succ {i : Nat} {π : List Nat} {o : Option D} {e : D} : updP (o :: A) (i + 1) π e = o :: updP A i π e := by
  unfold updP
  rw [List.getElem?_cons_succ]
  cases A[i]? with
  | none => rfl
  | some o => cases o <;> rfl
@[simp] theorem getP_lst {j : Nat} {π : List Nat} {xs : List D} : getP (.lst true xs) (j :: π) = xs[j]?.bind fun e => getP e π := (rfl)
@[simp] theorem getP_dct {j : Nat} {π : List Nat} {ks : List Key} {xs : List D} : getP (.dct true ks xs) (j :: π) = xs[j]?.bind fun e => getP e π := (rfl)
@[simp] theorem setP_nil {d e : D} : setP d [] e = e := by cases d <;> rfl
@[simp] theorem getP_nil {d : D} : getP d [] = some d := by cases d <;> rfl
@[simp] theorem sFldS_run {c : Nat} {f : Str} {p : Pl} {me : Ev → Option D} : sFldS c f p me A = (p A).bind fun z => (me A).bind fun y => match z.2.2 with
  | .obj true c' fs xs => if c' = c ∧ fs.length < 900 then some (.nx (updP A z.1 z.2.1 (.obj true c (putT fs xs f y).1 (putT fs xs f y).2))) else none
  | _ => none := rfl
@[simp] theorem sPut_run {p : Pl} {mk me : Ev → Option D} : sPut p mk me A = (me A).bind fun y => (p A).bind fun z => (mk A).bind fun k => (putKey z.2.2 k y).map fun d => .nx (updP A z.1 z.2.1 d) := (rfl)
section
variable {i : Int} {s : Str} {b : Bool} {xs : List D} {ks : List Key} {kt : List (List Key)} {c : Nat} {fs : List Str}
@[simp] theorem isN_non : isND .non .non = some (.bl true) := (rfl)
@[simp] theorem isN_int : isND (.int i) .non = some (.bl false) := (rfl)
@[simp] theorem isN_bl : isND (.bl b) .non = some (.bl false) := (rfl)
@[simp] theorem isN_str : isND (.str s) .non = some (.bl false) := (rfl)
@[simp] theorem isN_tup : isND (.tup xs) .non = some (.bl false) := (rfl)
@[simp] theorem isN_lst : isND (.lst b xs) .non = some (.bl false) := (rfl)
@[simp] theorem isN_dct : isND (.dct b ks xs) .non = some (.bl false) := (rfl)
@[simp] theorem isN_dtt : isND (.dtt b kt xs) .non = some (.bl false) := (rfl)
@[simp] theorem isN_obj : isND (.obj b c fs xs) .non = some (.bl false) := (rfl)
@[simp] theorem notN_non : notND .non .non = some (.bl false) := (rfl)
@[simp] theorem notN_int : notND (.int i) .non = some (.bl true) := (rfl)
@[simp] theorem notN_bl : notND (.bl b) .non = some (.bl true) := (rfl)
@[simp] theorem notN_str : notND (.str s) .non = some (.bl true) := (rfl)
@[simp] theorem notN_tup : notND (.tup xs) .non = some (.bl true) := (rfl)
@[simp] theorem notN_lst : notND (.lst b xs) .non = some (.bl true) := (rfl)
@[simp] theorem notN_dct : notND (.dct b ks xs) .non = some (.bl true) := (rfl)
@[simp] theorem notN_dtt : notND (.dtt b kt xs) .non = some (.bl true) := (rfl)
@[simp] theorem notN_obj : notND (.obj b c fs xs) .non = some (.bl true) := (rfl)
end
section
variable {b c : Bool} {xs ys : List D} {s : Str} {ks : List Key} {kt : List (List Key)} {i : Int}
@[simp] theorem items_lst : items' (.lst b xs) = some xs := (rfl)
@[simp] theorem items_tup : items' (.tup xs) = some xs := (rfl)
@[simp] theorem items_ktup : items' (.ktup xs) = some xs := (rfl)
@[simp] theorem items_str : items' (.str s) = some (s.cps.toList.map fun c => D.str ⟨#[c]⟩) := (rfl)
@[simp] theorem lstD_lst : lstD [.lst b xs] = if D.plainL xs = true then some (.lst true xs) else none := (rfl)
@[simp] theorem lstD_tup : lstD [.tup xs] = if D.plainL xs = true then some (.lst true xs) else none := (rfl)
@[simp] theorem lstD_dct : lstD [.dct b ks xs] = some (.lst true (ks.map keyV)) := by
  show some (D.lst true (ks.map fun k => match k with | .inl i => .int i | .inr s => .str s)) = _
  congr 2
@[simp] theorem addD_lst : addD (.lst b xs) (.lst c ys) = if D.plainL xs = true ∧ D.plainL ys = true ∧ xs.length + ys.length ≤ sizeLine then some (.lst true (xs ++ ys)) else none := (rfl)
@[simp] theorem keysOf_dct : keysOf (.dct false ks xs) = some (ks.map keyV) := (rfl)
@[simp] theorem keysOf_dtt : keysOf (.dtt false kt xs) = some (kt.map fun k => .tup (k.map keyV)) := (rfl)
@[simp] theorem sortedD_lst {ns : List Int} : sortedD [.lst b (ns.map D.int)] = some (.lst true ((sortI ns).map D.int)) := by
  show (intsD (ns.map D.int)).map _ = _
  rw [intsD_map]; rfl
@[simp] theorem minD_lst {ns : List Int} : minD [.lst b (ns.map D.int)] = (minL ns).map .int := by
  show (intsD (ns.map D.int)).bind _ = _
  rw [intsD_map]; rfl
@[simp] theorem maxD_lst {ns : List Int} : maxD [.lst b (ns.map D.int)] = (maxL ns).map .int := by
  show (intsD (ns.map D.int)).bind _ = _
  rw [intsD_map]; rfl
@[simp] theorem minD_two {j : Int} : minD [.int i, .int j] = some (.int (min i j)) := by
  show some (D.int (if j < i then j else i)) = _
  congr 2; split <;> omega
@[simp] theorem maxD_two {j : Int} : maxD [.int i, .int j] = some (.int (max i j)) := by
  show some (D.int (if j > i then j else i)) = _
  congr 2; split <;> omega
@[simp] theorem truth_int : truth (.int i) = some (i != 0) := (rfl)
@[simp] theorem truth_lst : truth (.lst b xs) = some (!xs.isEmpty) := (rfl)
@[simp] theorem truth_tup : truth (.tup xs) = some (!xs.isEmpty) := (rfl)
@[simp] theorem truth_non : truth .non = some false := (rfl)
end
theorem small64_of {i : Int} (h1 : -18446744073709551616 < i) (h2 : i < 18446744073709551616) : VI.small64 i = true := by
  unfold VI.small64
  simp only [decide_eq_true_eq]
  omega
@[simp] theorem small64_lit {i : Int} (h1 : -18446744073709551616 < i) (h2 : i < 18446744073709551616) : VI.small64 i = true := small64_of h1 h2
@[simp] theorem mulD_l {i j : Int} (h : VI.small64 i = true) : mulD (.int i) (.int j) = some (.int (i * j)) := by rw [mulD_int, h]; rfl
@[simp] theorem mulD_r {i j : Int} (h : VI.small64 j = true) : mulD (.int i) (.int j) = some (.int (i * j)) := by rw [mulD_int, h, Bool.or_true]; rfl
def ap (g : List D → Option (D × Ev)) (ds : List D) : Option D := (g (D.frzL ds)).bind fun r => if D.plainL ds = true ∨ r.1.clean = true then some r.1 else none
@[simp] theorem mPos_run {g : List D → Option (D × Ev)} {ms : Ev → Option (List D)} : mPos g ms A = (ms A).bind (ap g) := (rfl)
@[simp] theorem gsel_nil {α : Type} {us ws cs : List α} : gsel [] us ws cs = [] := (rfl)
@[simp] theorem gsel_p {α : Type} {us ws cs : List α} {i : Nat} {src : List Src} : gsel (.p i :: src) us ws cs = match us[i]? with | some a => a :: gsel src us ws cs | none => gsel src us ws cs := (rfl)
@[simp] theorem gsel_k {α : Type} {us ws cs : List α} {i : Nat} {src : List Src} : gsel (.k i :: src) us ws cs = match ws[i]? with | some a => a :: gsel src us ws cs | none => gsel src us ws cs := (rfl)
@[simp] theorem gsel_c {α : Type} {us ws cs : List α} {i : Nat} {src : List Src} : gsel (.c i :: src) us ws cs = match cs[i]? with | some a => a :: gsel src us ws cs | none => gsel src us ws cs := (rfl)
section
variable {α : Type} {xs : List α} {a0 a1 a2 a3 a4 a5 a6 a7 a8 a9 : α}
@[simp] theorem at0 : atI (a0 :: xs) 0 = some a0 := by have := atI_nat (xs := a0 :: xs) (k := 0) (by simp); simpa using this
@[simp] theorem at1 : atI (a0 :: a1 :: xs) 1 = some a1 := by have := atI_nat (xs := a0 :: a1 :: xs) (k := 1) (by simp); simpa using this
@[simp] theorem at2 : atI (a0 :: a1 :: a2 :: xs) 2 = some a2 := by have := atI_nat (xs := a0 :: a1 :: a2 :: xs) (k := 2) (by simp); simpa using this
@[simp] theorem at3 : atI (a0 :: a1 :: a2 :: a3 :: xs) 3 = some a3 := by have := atI_nat (xs := a0 :: a1 :: a2 :: a3 :: xs) (k := 3) (by simp); simpa using this
@[simp] theorem at4 : atI (a0 :: a1 :: a2 :: a3 :: a4 :: xs) 4 = some a4 := by have := atI_nat (xs := a0 :: a1 :: a2 :: a3 :: a4 :: xs) (k := 4) (by simp); simpa using this
@[simp] theorem at5 : atI (a0 :: a1 :: a2 :: a3 :: a4 :: a5 :: xs) 5 = some a5 := by have := atI_nat (xs := a0 :: a1 :: a2 :: a3 :: a4 :: a5 :: xs) (k := 5) (by simp); simpa using this
@[simp] theorem at6 : atI (a0 :: a1 :: a2 :: a3 :: a4 :: a5 :: a6 :: xs) 6 = some a6 := by have := atI_nat (xs := a0 :: a1 :: a2 :: a3 :: a4 :: a5 :: a6 :: xs) (k := 6) (by simp); simpa using this
@[simp] theorem at7 : atI (a0 :: a1 :: a2 :: a3 :: a4 :: a5 :: a6 :: a7 :: xs) 7 = some a7 := by have := atI_nat (xs := a0 :: a1 :: a2 :: a3 :: a4 :: a5 :: a6 :: a7 :: xs) (k := 7) (by simp); simpa using this
@[simp] theorem at8 : atI (a0 :: a1 :: a2 :: a3 :: a4 :: a5 :: a6 :: a7 :: a8 :: xs) 8 = some a8 := by have := atI_nat (xs := a0 :: a1 :: a2 :: a3 :: a4 :: a5 :: a6 :: a7 :: a8 :: xs) (k := 8) (by simp); simpa using this
@[simp] theorem at9 : atI (a0 :: a1 :: a2 :: a3 :: a4 :: a5 :: a6 :: a7 :: a8 :: a9 :: xs) 9 = some a9 := by have := atI_nat (xs := a0 :: a1 :: a2 :: a3 :: a4 :: a5 :: a6 :: a7 :: a8 :: a9 :: xs) (k := 9) (by simp); simpa using this
@[simp] theorem atLast {a : α} : atI (xs ++ [a]) (-1) = some a := by
  have e : ixN (xs ++ [a]).length (-1) = some xs.length := by
    unfold ixN
    rw [if_neg (by omega), if_pos (by simp; omega)]
    simp; omega
  unfold atI
  rw [e]; simp
end
section
variable {c : Prop} [Decidable c]
@[simp] theorem ite_nx {A B : Ev} : (if c then some (SOut.nx A) else some (SOut.nx B)) = some (SOut.nx (if c then A else B)) := by split <;> rfl
@[simp] theorem ite_ev {a b : Option D} {A B : Ev} : (if c then a :: A else b :: B) = (if c then a else b) :: (if c then A else B) := by split <;> rfl
@[simp] theorem ite_someB {a b : Bool} : (if c then some a else some b) = some (if c then a else b) := by split <;> rfl
@[simp] theorem ite_some {a b : D} : (if c then some a else some b) = some (if c then a else b) := by split <;> rfl
@[simp] theorem ite_int {a b : Int} : (if c then D.int a else D.int b) = D.int (if c then a else b) := by split <;> rfl
@[simp] theorem ite_bl {a b : Bool} : (if c then D.bl a else D.bl b) = D.bl (if c then a else b) := by split <;> rfl
@[simp] theorem ite_str {a b : Str} : (if c then D.str a else D.str b) = D.str (if c then a else b) := by split <;> rfl
@[simp] theorem frz_ite {a b : D} : (if c then a else b).frz = if c then a.frz else b.frz := by split <;> rfl
@[simp] theorem plain_ite {a b : D} : (if c then a else b).plain = if c then a.plain else b.plain := by split <;> rfl
@[simp] theorem ite_lst {m : Bool} {a b : List D} : (if c then D.lst m a else D.lst m b) = D.lst m (if c then a else b) := by split <;> rfl
end
def outR (o : Option SOut) : Option (D × Ev) := match o with
  | some (.rt d A) => some (d, A)
  | some (.nx A) => some (.non, A)
  | _ => none
@[simp] theorem outR_rt : outR (some (.rt d A)) = some (d, A) := (rfl)
@[simp] theorem outR_nx : outR (some (.nx A)) = some (.non, A) := (rfl)
@[simp] theorem outR_none : outR none = none := (rfl)
@[simp] theorem outR_ite {c : Prop} [Decidable c] {a b : Option SOut} : outR (if c then a else b) = if c then outR a else outR b := by split <;> rfl
def outV (o : Option SOut) : Option D := match o with
  | some (.rt d A) => some d
  | some (.nx A) => some .non
  | _ => none
@[simp] theorem outV_rt : outV (some (.rt d A)) = some d := (rfl)
@[simp] theorem outV_nx : outV (some (.nx A)) = some .non := (rfl)
@[simp] theorem outV_none : outV none = none := (rfl)
@[simp] theorem outV_ite {c : Prop} [Decidable c] {a b : Option SOut} : outV (if c then a else b) = if c then outV a else outV b := by split <;> rfl
theorem outV_some {r : D} (h : outV o = some r) : ∃ A, outR o = some (r, A) := by
  unfold outV at h
  split at h
  · cases h; exact ⟨_, rfl⟩
  · cases h; exact ⟨_, rfl⟩
  · cases h
def env0 (n N : Nat) (ds : List D) : Ev := ds.map some ++ List.replicate (N - n) none
theorem runF_run {n N : Nat} {ds : List D} (h : ds.length = n) : runF n N m ds = outR (m (env0 n N ds)) := by
  unfold runF env0 outR
  exact if_pos h
theorem ap_run {n N : Nat} {ds : List D} {r : D} (h : ds.length = n) (hr : outV (m (env0 n N (D.frzL ds))) = some r) (hc : D.plainL ds = true ∨ r.clean = true) : ap (runF n N m) ds = some r := by
  unfold ap
  rw [runF_run (by rw [frzL_len]; exact h)]
  obtain ⟨A, hA⟩ := outV_some hr
  rw [hA]; simp only [Option.bind_some]; rw [if_pos hc]
theorem law_run {n N : Nat} {ds : List D} {r : D} (h : ds.length = n) (hr : outV (m (env0 n N ds)) = some r) : ∃ A, runF n N m ds = some (r, A) := by
  rw [runF_run h]
  exact outV_some hr
def forB (g : D → Ev → Option Ev) (mb : SM) (ds : List D) (A : Ev) : Option SOut := forL (fun d A => (g d A).bind mb) ds A
@[simp] theorem sFor_run {mi : Ev → Option (List D)} {g : D → Ev → Option Ev} {mb : SM} : sFor mi g mb A = (mi A).bind fun ds => forB g mb ds A := (rfl)
@[simp] theorem forB_nil {g : D → Ev → Option Ev} {mb : SM} : forB g mb [] A = some (.nx A) := (rfl)
theorem forB_cons {g : D → Ev → Option Ev} {mb : SM} {ds : List D} : forB g mb (d :: ds) A = match (g d A).bind mb with
    | some (.nx A') => forB g mb ds A'
    | some (.ct A') => forB g mb ds A'
    | some (.bk A') => some (.nx A')
    | r => r := rfl
def Goes (o : Option SOut) (A : Ev) : Prop := o = some (.nx A) ∨ o = some (.ct A)
theorem forB_goes {g : D → Ev → Option Ev} {mb : SM} {ds : List D} {A' : Ev} (h : Goes ((g d A).bind mb) A') : forB g mb (d :: ds) A = forB g mb ds A' := by
  rw [forB_cons]
  rcases h with h | h <;> rw [h]
theorem for_det {α : Type} {g : D → Ev → Option Ev} {mb : SM} (enc : α → D) : ∀ (E : Nat → Ev) (xs : List α), (∀ i x, xs[i]? = some x → Goes ((g (enc x) (E i)).bind mb) (E (i + 1))) → forB g mb (xs.map enc) (E 0) = some (.nx (E xs.length))
  | E, [], _ => rfl
  | E, x :: xs, h => by
    rw [List.map_cons, forB_goes (h 0 x rfl)]
    exact for_det enc (fun i => E (i + 1)) xs fun i y hy => h (i + 1) y (by simpa using hy)
theorem for_inv {α β : Type} {g : D → Ev → Option Ev} {mb : SM} (enc : α → D) (E : β → Ev) : ∀ (I : Nat → β → Prop) (xs : List α) (s : β), I 0 s → (∀ i x s, xs[i]? = some x → I i s → ∃ s', Goes ((g (enc x) (E s)).bind mb) (E s') ∧ I (i + 1) s') →
    ∃ s', forB g mb (xs.map enc) (E s) = some (.nx (E s')) ∧ I xs.length s'
  | I, [], s, h0, _ => ⟨s, rfl, h0⟩
  | I, x :: xs, s, h0, h => by
    obtain ⟨s1, h1, h2⟩ := h 0 x s rfl h0
    rw [List.map_cons, forB_goes h1]
    exact for_inv enc E (fun i => I (i + 1)) xs s1 h2 fun i y s hy hi => h (i + 1) y s (by simpa using hy) hi
end
def lcB (c : D → Option (Option D)) (ds : List D) : Option (List D) := lcRun c ds
@[simp] theorem mLcN_run {mi : Ev → Option (List D)} {c : Ev → D → Option (Option D)} {vs : List Nat} {A : Ev} : mLcN mi c vs A = (mi A).bind fun ds => if ds.length ≤ 100000 then (lcB (c (killA vs A)) ds).map fun xs => .lst true xs else none := (rfl)
@[simp] theorem lcB_nil {c : D → Option (Option D)} : lcB c [] = some [] := (rfl)
@[simp] theorem lcItem_run {g : D → Ev → Option Ev} {mt : Ev → Option Bool} {me : Ev → Option D} {A : Ev} {d : D} : lcItem g mt me A d = (g d A).bind fun A' => (mt A').bind fun b => if b = true then (me A').map some else some none := (rfl)
@[simp] theorem mYes_run {A : Ev} : mYes A = some true := (rfl)
section
variable {b : Bool} {ks : List Key} {kt : List (List Key)} {xs : List D}
@[simp] theorem tyD_dct : tyD (.dct b ks xs) = some "dict" := (rfl)
@[simp] theorem tyD_dtt : tyD (.dtt b kt xs) = some "dict" := (rfl)
@[simp] theorem kit_dd : kitB "dict" "dict" = some true := by decide +kernel
end
@[simp] theorem neg_run {m : Ev → Option D} {A : Ev} : mNeg m A = (m A).bind negD := (rfl)
@[simp] theorem negD_int {i : Int} : negD (.int i) = some (.int (-i)) := (rfl)
@[simp] theorem mDcN_run {mi : Ev → Option (List D)} {c : Ev → D → Option (Option (Key × D))} {vs : List Nat} {A : Ev} : mDcN mi c vs A = (mi A).bind fun ds => if ds.length ≤ 100000 then (dcRun (c (wipeA A vs)) ds).bind fun ps => if (ps.map (·.1)).Nodup then some (.dct true (ps.map (·.1)) (ps.map (·.2))) else none else none := (rfl)
@[simp] theorem dcItem_run {g : D → Ev → Option Ev} {mt : Ev → Option Bool} {mk me : Ev → Option D} {A : Ev} {d : D} : dcItem g mt mk me A d = (g d A).bind fun A' => (mt A').bind fun b => if b = true then (mk A').bind fun y => (keyD y).bind fun k => (me A').map fun z => some (k, z) else some none := (rfl)
@[simp] theorem dcRun_nil {f : D → Option (Option (Key × D))} : dcRun f [] = some [] := (rfl)
section
variable {A : Ev} {m m1 : Ev → Option (D × Ev)} {ms m2 : Ev → Option (List D × Ev)} {ml : Ev → Option (List D)} {me : Ev → Option D} {g : List D → Option (D × Ev)} {ds : List D} {d : D} {i : Nat}
@[simp] theorem mENil_run : mENil A = some ([], A) := (rfl)
@[simp] theorem mECons_run : mECons m1 m2 A = (m1 A).bind fun r => (m2 r.2).map fun s => (r.1 :: s.1, s.2) := (rfl)
@[simp] theorem mTake_run : mTake i A = A[i]?.join.map fun d => (d, A.set i none) := (rfl)
@[simp] theorem mLook_run : mLook me A = (me A).map fun d => (d, A) := (rfl)
@[simp] theorem mTupE_run : mTupE ms A = (ms A).bind fun r => if r.1.length ≤ 1000 then some (.tup r.1, r.2) else none := (rfl)
end
end VI
set_option Elab.async false
set_option linter.all false
set_option maxRecDepth 100000
set_option autoImplicit false
namespace VI
open PySem L2
def l1_d_law_row : SM :=
    (sKill [5] (sIf (mT (mOp ltD (mCall absD (mCons (mV 0) mNil)) (mOp powD (mC (D.int 10)) (mC (D.int 18)))))
    (sSeq (sAsg 4 (mOp modD (mCall intD (mCons (mOp addD (mOp mulD (mV 4) (mC (D.int 16807))) (mC (D.int 40692))) mNil)) (mC (D.int 2147483399))))
    (sEff (bMeth1 (pN 2) (mOp modD (mOp fdivD (mV 4) (mC (D.int 11))) (mC (D.int 1000))) opAppend)))
    (sSeq (sEff (bMeth1 (pN 2) (mOp modD (mCall intD (mCons (mV 3) mNil)) (mC (D.int 1000))) opAppend))
    (sAsg 3 (mOp fdivD (mV 3) (mC (D.int 1000)))))))
def b_d_law_row : SM :=
    (sSeq (sAsg 2 (mLst mNil))
    (sSeq (sAsg 3 (mCall absD (mCons (mV 0) mNil)))
    (sSeq (sAsg 4 (mOp modD (mCall intD (mCons (mOp addD (mOp mulD (mV 0) (mC (D.int 48271))) (mC (D.int 17))) mNil)) (mC (D.int 2147483647))))
    (sSeq (sKill [0, 1, 4, 3] (sFor (mRng1 (mCons (mV 1) mNil)) (tgN 5) l1_d_law_row))
    (sRetV 2)))))
def f_d_law_row : List D → Option (D × Ev) := runF 2 6 b_d_law_row
def b_d_law_cell : SM :=
    (sSeq (sKill [1, 0] (sIf (mT (mOp ltD (mV 1) (mCall lenD (mCons (mV 0) mNil))))
    (sRet (mP (mOp subscr (mV 0) (mV 1))))
    sNx))
    (sRet (mC (D.int 0))))
def f_d_law_cell : List D → Option (D × Ev) := runF 2 2 b_d_law_cell
def b_m_Network_need_keeper : SM :=
    (sKill [1, 0] (sIf (mT (mOp ninD (mV 1) (mFld 0 "needs" (mV 0))))
    (fun _ => none)
    sNx))
def f_m_Network_need_keeper : List D → Option (D × Ev) := runF 2 2 b_m_Network_need_keeper
def b_d_law_is_integer : SM :=
    (sRet (mAndV (mIsi "int" (mV 0)) (mNotV (mIsi "bool" (mV 0)))))
def f_d_law_is_integer : List D → Option (D × Ev) := runF 1 1 b_d_law_is_integer
def b_m_Network_need_of : SM :=
    (sSeq (sExp (mPos f_m_Network_need_keeper (mRecv 0 "need_keeper" (mV 0) (mCons (mV 1) mNil))))
    (sRet (mP (mOp subscr (mFld 0 "needs" (mV 0)) (mV 1)))))
def f_m_Network_need_of : List D → Option (D × Ev) := runF 2 2 b_m_Network_need_of
def l1_d_moment_along : SM :=
    (sKill [7, 8, 6] (sIf (mT (mOp isND (mV 8) (mC D.non)))
    (sEff (bMeth1 (pN 5) (mOp addD (mOp subscr (mV 1) (mV 6)) (mV 7)) opAppend))
    (sAsg 4 (mCall minD (mCons (mV 4) (mCons (mOp addD (mOp subscr (mV 1) (mV 6)) (mV 7)) mNil))))))
def b_d_moment_along : SM :=
    (sSeq (sKill [3] (sAsg 4 (mP (mV 3))))
    (sSeq (sAsg 5 (mLst mNil))
    (sSeq (sKill [0, 1] (sFor (mItems' (mP (mV 0))) (tgTup 3 (tgCons (tgN 6) (tgCons (tgN 7) (tgCons (tgN 8) tgNil)))) l1_d_moment_along))
    (sSeq (sKill [5, 2] (sIf (mT (mOp geD (mCall lenD (mCons (mV 5) mNil)) (mV 2)))
    (sAsg 4 (mCall minD (mCons (mV 4) (mCons (mOp subscr (mCall sortedD (mCons (mV 5) mNil)) (mOp subD (mV 2) (mC (D.int 1)))) mNil))))
    sNx))
    (sRetV 4)))))
def f_d_moment_along : List D → Option (D × Ev) := runF 4 9 b_d_moment_along
def b_m_Network_lines_to : SM :=
    (sRet (mCall lstD (mCons (mOp subscr (mFld 0 "into" (mV 0)) (mV 1)) mNil)))
def f_m_Network_lines_to : List D → Option (D × Ev) := runF 2 2 b_m_Network_lines_to
def l1_m_Network_lines : SM :=
    (sSeq (sAsgG (tgTup 2 (tgCons (tgN 4) (tgCons (tgN 5) tgNil))) (mP (mOp subscr (mFld 0 "spans" (mV 0)) (mTup (mCons (mP (mV 2)) (mCons (mP (mV 3)) mNil))))))
    (sFrz 5 (sFrz 4 (sKill [4, 5, 2, 3] (sEff (bMeth1 (pN 1) (mTup (mCons (mP (mV 2)) (mCons (mP (mV 3)) (mCons (mP (mV 4)) (mCons (mP (mV 5)) mNil))))) opAppend))))))
def b_m_Network_lines : SM :=
    (sSeq (sAsg 1 (mLst mNil))
    (sSeq (sKill [0] (sFor (fun A => ((mFld 0 "spans" (mV 0)) A).bind keysOf) (tgTup 2 (tgCons (tgN 2) (tgCons (tgN 3) tgNil))) l1_m_Network_lines))
    (sRetV 1)))
def f_m_Network_lines : List D → Option (D × Ev) := runF 1 6 b_m_Network_lines
def b_m_Network_is_lookout : SM :=
    (sSeq (sExp (mPos f_m_Network_need_keeper (mRecv 0 "need_keeper" (mV 0) (mCons (mV 1) mNil))))
    (sRet (mP (mOp subscr (mFld 0 "watches" (mV 0)) (mV 1)))))
def f_m_Network_is_lookout : List D → Option (D × Ev) := runF 2 2 b_m_Network_is_lookout
def b_m_Network_ddcontains : SM :=
    (sRet (mOp inD (mV 1) (mFld 0 "needs" (mV 0))))
def f_m_Network_ddcontains : List D → Option (D × Ev) := runF 2 2 b_m_Network_ddcontains
def l1_d_check_faults : SM :=
    (sSeq (sAsgG (tgTup 2 (tgCons (tgN 4) (tgCons (tgN 5) tgNil))) (mP (mV 3)))
    (sSeq (sIf (mT (mOp (inOwnD 0 f_m_Network_ddcontains true) (mV 4) (mV 0)))
    (fun _ => none)
    sNx)
    (sSeq (sKill [3] (sIf (mOr (mT (mOp ninD (mV 5) (mC (D.ktup [D.str "err", D.str "sleep"])))) (mT (mOp inD (mV 4) (mV 2))))
    (fun _ => none)
    sNx))
    (sFrz 5 (sKill [5, 4] (sPut (pN 2) (mV 4) (mP (mV 5))))))))
def c2_d_check_faults : Ev → D → Option (Option D) :=
    lcItem (tgN 4) (mT (mOp inD (mV 4) (mV 2))) (mTup (mCons (mP (mV 4)) (mCons (mP (mOp subscr (mV 2) (mV 4))) mNil)))
def b_d_check_faults : SM :=
    (sSeq (sAsg 2 (mC (D.dct true [] [])))
    (sSeq (sKill [1] (sFor (mItems' (mP (mV 1))) (tgN 3) l1_d_check_faults))
    (sRet (mLcN (mOwnIt 0 "names" (mP (mV 0))) c2_d_check_faults [4]))))
def f_d_check_faults : List D → Option (D × Ev) := runF 2 6 b_d_check_faults
end VI
set_option Elab.async false
set_option linter.all false
set_option maxRecDepth 100000
set_option autoImplicit false
namespace VI
open PySem L2
theorem look_map {κ α : Type} [DecidableEq κ] (key : α → κ) (f : α → D) (k : κ) : ∀ xs : List α, look (xs.map key) (xs.map f) k = (xs.find? fun x => decide (key x = k)).map f
  | [] => rfl
  | x :: xs => by
    have ih := look_map key f k xs
    unfold look at ih ⊢
    rw [List.map_cons, List.map_cons, List.zip_cons_cons]
    by_cases h : key x = k
    · rw [List.find?_cons_of_pos (by simpa using h), List.find?_cons_of_pos (by simpa using h)]; rfl
    · rw [List.find?_cons_of_neg (by simpa using h), List.find?_cons_of_neg (by simpa using h)]; exact ih
theorem kS_inj {a b : Str} : kS a = kS b ↔ a = b := by simp [kS]
theorem find_kS {s : Str} : ∀ xs : List Str, (xs.find? fun x => decide (kS x = kS s)) = if s ∈ xs then some s else none
  | [] => by simp
  | x :: xs => by
    by_cases h : x = s
    · subst h; simp [kS_inj]
    · rw [List.find?_cons_of_neg (by simpa [kS_inj] using h), find_kS xs]
      simp [Ne.symm h]
@[simp] theorem look_kS {f : Str → D} {s : Str} {xs : List Str} : look (xs.map kS) (xs.map f) (kS s) = if s ∈ xs then some (f s) else none := by
  rw [look_map, find_kS]
  split <;> rfl
@[simp] theorem inD_dct {b : Bool} {ks : List Key} {ds : List D} {s : Str} : inD (.str s) (.dct b ks ds) = some (.bl (look ks ds (kS s)).isSome) := (rfl)
def optD : Option Int → D
  | none => .non
  | some i => .int i
@[simp] theorem optD_none : optD none = .non := (rfl)
@[simp] theorem optD_some {i : Int} : optD (some i) = .int i := (rfl)
@[simp] theorem optD_frz {o : Option Int} : (optD o).frz = optD o := by cases o <;> rfl
@[simp] theorem optD_plain {o : Option Int} : (optD o).plain = true := by cases o <;> rfl
@[simp] theorem optD_clean {o : Option Int} : (optD o).clean = true := by cases o <;> rfl
@[simp] theorem isND_opt {o : Option Int} : isND (optD o) .non = some (.bl (decide (o = none))) := by cases o <;> rfl
@[simp] theorem notND_opt {o : Option Int} : notND (optD o) .non = some (.bl (!decide (o = none))) := by cases o <;> rfl
@[simp] theorem frzL_mapf {α : Type} {g : α → D} {xs : List α} : D.frzL (xs.map g) = xs.map fun x => (g x).frz := frzL_map
@[simp] theorem plainL_mapf {α : Type} {g : α → D} {xs : List α} : D.plainL (xs.map g) = xs.all fun x => (g x).plain := by induction xs with | nil => rfl | cons x xs ih => simp [ih]
@[simp] theorem cleanL_mapf {α : Type} {g : α → D} {xs : List α} : D.cleanL (xs.map g) = xs.all fun x => (g x).clean := by induction xs with | nil => rfl | cons x xs ih => simp [ih]
@[simp] theorem plainL_app {xs ys : List D} : D.plainL (xs ++ ys) = (D.plainL xs && D.plainL ys) := plainL_append
@[simp] theorem frzL_app {xs ys : List D} : D.frzL (xs ++ ys) = D.frzL xs ++ D.frzL ys := frzL_append
@[simp] theorem cleanL_app {xs ys : List D} : D.cleanL (xs ++ ys) = (D.cleanL xs && D.cleanL ys) := by induction xs with | nil => simp | cons x xs ih => simp [ih, Bool.and_assoc]
@[simp] theorem plainL_rev {xs : List D} : D.plainL xs.reverse = D.plainL xs := by induction xs with | nil => rfl | cons x xs ih => simp [ih, Bool.and_comm]
@[simp] theorem cleanL_rev {xs : List D} : D.cleanL xs.reverse = D.cleanL xs := by induction xs with | nil => rfl | cons x xs ih => simp [ih, Bool.and_comm]
@[simp] theorem frzL_rev {xs : List D} : D.frzL xs.reverse = (D.frzL xs).reverse := by induction xs with | nil => rfl | cons x xs ih => simp [ih]
section
variable {α : Type} {g : α → D} {xs : List α} {j : Nat}
@[simp] theorem plainL_take : D.plainL ((xs.map g).take j) = (xs.take j).all fun x => (g x).plain := by rw [← List.map_take, plainL_mapf]
@[simp] theorem plainL_drop : D.plainL ((xs.map g).drop j) = (xs.drop j).all fun x => (g x).plain := by rw [← List.map_drop, plainL_mapf]
@[simp] theorem cleanL_take : D.cleanL ((xs.map g).take j) = (xs.take j).all fun x => (g x).clean := by rw [← List.map_take, cleanL_mapf]
@[simp] theorem cleanL_drop : D.cleanL ((xs.map g).drop j) = (xs.drop j).all fun x => (g x).clean := by rw [← List.map_drop, cleanL_mapf]
@[simp] theorem frzL_take : D.frzL ((xs.map g).take j) = (xs.map fun x => (g x).frz).take j := by rw [← List.map_take, frzL_map, List.map_take]
@[simp] theorem frzL_drop : D.frzL ((xs.map g).drop j) = (xs.map fun x => (g x).frz).drop j := by rw [← List.map_drop, frzL_map, List.map_drop]
end
structure Line where
  seen : Str
  viewer : Str
  least : Int
  most : Option Int
deriving DecidableEq
structure Net where
  dawn : Int
  names : List Str
  look : Str → Bool
  need : Str → Int
  lines : List Line
def Line.pair (l : Line) : List Key := [kS l.seen, kS l.viewer]
def Line.span (l : Line) : D := .tup [.int l.least, optD l.most]
def Line.tup (l : Line) : D := .tup [.str l.seen, .str l.viewer, .int l.least, optD l.most]
def Line.into (l : Line) : D := .tup [.str l.seen, .int l.least, optD l.most]
abbrev netF : List Str := ["dawn", "names", "watches", "needs", "spans", "into"]
def Net.to (N : Net) (v : Str) : List Line := N.lines.filter fun l => decide (l.viewer = v)
def net6 (b : Bool) (dawn names ws ns sp iv : D) : D := .obj b 0 netF [dawn, names, ws, ns, sp, iv]
def netD (b : Bool) (N : Net) : D :=
  net6 b (.int N.dawn) (.lst b (N.names.map D.str)) (.dct b (N.names.map kS) (N.names.map fun n => .bl (N.look n))) (.dct b (N.names.map kS) (N.names.map fun n => .int (N.need n)))
    (.dtt b (N.lines.map Line.pair) (N.lines.map Line.span)) (.dct b (N.names.map kS) (N.names.map fun n => .lst b ((N.to n).map Line.into)))
@[simp] theorem line_span_frz {l : Line} : l.span.frz = l.span := by simp [Line.span]
@[simp] theorem line_tup_frz {l : Line} : l.tup.frz = l.tup := by simp [Line.tup]
@[simp] theorem line_into_frz {l : Line} : l.into.frz = l.into := by simp [Line.into]
@[simp] theorem line_span_plain {l : Line} : l.span.plain = true := by simp [Line.span]
@[simp] theorem line_tup_plain {l : Line} : l.tup.plain = true := by simp [Line.tup]
@[simp] theorem line_into_plain {l : Line} : l.into.plain = true := by simp [Line.into]
@[simp] theorem line_span_clean {l : Line} : l.span.clean = true := by simp [Line.span]
@[simp] theorem line_tup_clean {l : Line} : l.tup.clean = true := by simp [Line.tup]
@[simp] theorem line_into_clean {l : Line} : l.into.clean = true := by simp [Line.into]
@[simp] theorem netD_frz {b : Bool} {N : Net} : (netD b N).frz = netD false N := by
  unfold netD net6
  simp [frzL_map]
@[simp] theorem netD_plain {b : Bool} {N : Net} : (netD b N).plain = !b := (rfl)
@[simp] theorem netD_clean {b : Bool} {N : Net} : (netD b N).clean = b := by
  cases b <;> simp [netD, net6]
theorem netD_obj {b : Bool} {N : Net} {m : Str} (h : m ∉ netF) : isObj 0 m (netD b N) = true := by
  unfold netD net6 isObj
  simp only [decide_true, Bool.true_and, decide_eq_true_eq]; exact h
@[simp] theorem ob_need_keeper {b : Bool} {N : Net} : isObj 0 "need_keeper" (netD b N) = true := netD_obj (by decide +kernel)
@[simp] theorem ob_add_keeper {b : Bool} {N : Net} : isObj 0 "add_keeper" (netD b N) = true := netD_obj (by decide +kernel)
@[simp] theorem ob_add_line {b : Bool} {N : Net} : isObj 0 "add_line" (netD b N) = true := netD_obj (by decide +kernel)
@[simp] theorem ob_is_lookout {b : Bool} {N : Net} : isObj 0 "is_lookout" (netD b N) = true := netD_obj (by decide +kernel)
@[simp] theorem ob_need_of {b : Bool} {N : Net} : isObj 0 "need_of" (netD b N) = true := netD_obj (by decide +kernel)
@[simp] theorem ob_lateness {b : Bool} {N : Net} : isObj 0 "lateness" (netD b N) = true := netD_obj (by decide +kernel)
@[simp] theorem ob_lines {b : Bool} {N : Net} : isObj 0 "lines" (netD b N) = true := netD_obj (by decide +kernel)
@[simp] theorem ob_lines_to {b : Bool} {N : Net} : isObj 0 "lines_to" (netD b N) = true := netD_obj (by decide +kernel)
@[simp] theorem ob_copy {b : Bool} {N : Net} : isObj 0 "copy" (netD b N) = true := netD_obj (by decide +kernel)
theorem lookup_idx {α : Type} {f : Str} : ∀ {fs : List Str} {xs : List α} {j : Nat}, fs.idxOf? f = some j → fs.length = xs.length → (fs.zip xs).lookup f = xs[j]?
  | [], _, j, h, _ => by simp at h
  | g :: fs, [], j, h, l => by simp at l
  | g :: fs, x :: xs, j, h, l => by
    rw [List.idxOf?_cons] at h
    rw [List.zip_cons_cons, List.lookup_cons]
    by_cases hg : g = f
    · subst hg
      simp at h; subst h
      simp
    · rw [show (g == f) = false from by simpa using hg] at h
      simp only [Bool.false_eq_true, if_false, Option.map_eq_some_iff] at h
      obtain ⟨i, hi, rfl⟩ := h
      rw [show (f == g) = false from by simpa using Ne.symm hg]
      simpa using lookup_idx hi (by simpa using l)
theorem fld_at {b : Bool} {c : Nat} {fs : List Str} {xs : List D} {f : Str} (j : Nat) (h : fs.idxOf? f = some j) (l : fs.length = xs.length) : fldD c f (.obj b c fs xs) = xs[j]? := by
  unfold fldD
  simp only [if_true]
  exact lookup_idx h l
theorem idx_dawn : List.idxOf? ("dawn" : Str) netF = some 0 := by decide +kernel
theorem idx_names : List.idxOf? ("names" : Str) netF = some 1 := by decide +kernel
theorem idx_watches : List.idxOf? ("watches" : Str) netF = some 2 := by decide +kernel
theorem idx_needs : List.idxOf? ("needs" : Str) netF = some 3 := by decide +kernel
theorem idx_spans : List.idxOf? ("spans" : Str) netF = some 4 := by decide +kernel
theorem idx_into : List.idxOf? ("into" : Str) netF = some 5 := by decide +kernel
section
variable {b : Bool} {i : Nat} {π : List Nat} {x0 x1 x2 x3 x4 x5 e : D}
@[simp] theorem f6_dawn : fldD 0 "dawn" (net6 b x0 x1 x2 x3 x4 x5) = some x0 := fld_at 0 idx_dawn rfl
@[simp] theorem f6_names : fldD 0 "names" (net6 b x0 x1 x2 x3 x4 x5) = some x1 := fld_at 1 idx_names rfl
@[simp] theorem f6_watches : fldD 0 "watches" (net6 b x0 x1 x2 x3 x4 x5) = some x2 := fld_at 2 idx_watches rfl
@[simp] theorem f6_needs : fldD 0 "needs" (net6 b x0 x1 x2 x3 x4 x5) = some x3 := fld_at 3 idx_needs rfl
@[simp] theorem f6_spans : fldD 0 "spans" (net6 b x0 x1 x2 x3 x4 x5) = some x4 := fld_at 4 idx_spans rfl
@[simp] theorem f6_into : fldD 0 "into" (net6 b x0 x1 x2 x3 x4 x5) = some x5 := fld_at 5 idx_into rfl
@[simp] theorem s6_0 : setP (net6 true x0 x1 x2 x3 x4 x5) (0 :: π) e = net6 true (setP x0 π e) x1 x2 x3 x4 x5 := (rfl)
@[simp] theorem s6_1 : setP (net6 true x0 x1 x2 x3 x4 x5) (1 :: π) e = net6 true x0 (setP x1 π e) x2 x3 x4 x5 := (rfl)
@[simp] theorem s6_2 : setP (net6 true x0 x1 x2 x3 x4 x5) (2 :: π) e = net6 true x0 x1 (setP x2 π e) x3 x4 x5 := (rfl)
@[simp] theorem s6_3 : setP (net6 true x0 x1 x2 x3 x4 x5) (3 :: π) e = net6 true x0 x1 x2 (setP x3 π e) x4 x5 := (rfl)
@[simp] theorem s6_4 : setP (net6 true x0 x1 x2 x3 x4 x5) (4 :: π) e = net6 true x0 x1 x2 x3 (setP x4 π e) x5 := (rfl)
@[simp] theorem s6_5 : setP (net6 true x0 x1 x2 x3 x4 x5) (5 :: π) e = net6 true x0 x1 x2 x3 x4 (setP x5 π e) := (rfl)
variable {N : Net}
@[simp] theorem fld_dawn : fldD 0 "dawn" (netD b N) = some (.int N.dawn) := f6_dawn
@[simp] theorem fld_names : fldD 0 "names" (netD b N) = some (.lst b (N.names.map D.str)) := f6_names
@[simp] theorem fld_watches : fldD 0 "watches" (netD b N) = some (.dct b (N.names.map kS) (N.names.map fun n => .bl (N.look n))) := f6_watches
@[simp] theorem fld_needs : fldD 0 "needs" (netD b N) = some (.dct b (N.names.map kS) (N.names.map fun n => .int (N.need n))) := f6_needs
@[simp] theorem fld_spans : fldD 0 "spans" (netD b N) = some (.dtt b (N.lines.map Line.pair) (N.lines.map Line.span)) := f6_spans
@[simp] theorem fld_into : fldD 0 "into" (netD b N) = some (.dct b (N.names.map kS) (N.names.map fun n => .lst b ((N.to n).map Line.into))) := f6_into
end
@[simp] theorem setP_lst {j : Nat} {π : List Nat} {xs : List D} {e : D} : setP (.lst true xs) (j :: π) e = match xs[j]? with | some x => .lst true (xs.set j (setP x π e)) | none => .lst true xs := by
  cases h : xs[j]? <;> simp [setP, childs, h, reChild]
@[simp] theorem setP_dct {j : Nat} {π : List Nat} {ks : List Key} {xs : List D} {e : D} : setP (.dct true ks xs) (j :: π) e = match xs[j]? with | some x => .dct true ks (xs.set j (setP x π e)) | none => .dct true ks xs := by
  cases h : xs[j]? <;> simp [setP, childs, h, reChild]
structure NameOk (s : Str) : Prop where
  one : 1 ≤ s.length
  eight : s.length ≤ 8
  low : ∀ c ∈ s.cps.toList, 97 ≤ c ∧ c ≤ 122
structure Line.Ok (names : List Str) (l : Line) : Prop where
  s : l.seen ∈ names
  v : l.viewer ∈ names
  ne : l.seen ≠ l.viewer
  l1 : 1 ≤ l.least
  l999 : l.least ≤ 999
  m : ∀ i, l.most = some i → l.least ≤ i ∧ i ≤ 999
structure Net.Ok (N : Net) : Prop where
  d1 : 1 ≤ N.dawn
  d100 : N.dawn ≤ 100
  nd : N.names.Nodup
  len : N.names.length ≤ 8
  nok : ∀ s ∈ N.names, NameOk s
  n1 : ∀ s ∈ N.names, 1 ≤ N.need s ∧ N.need s ≤ 8
  lok : ∀ l ∈ N.lines, Line.Ok N.names l
  prs : (N.lines.map Line.pair).Nodup
def Net.new (dawn : Int) : Net := ⟨dawn, [], fun _ => false, fun _ => 1, []⟩
def Net.span (N : Net) (s v : Str) : Option Line := N.lines.find? fun l => decide (l.seen = s) && decide (l.viewer = v)
end VI
set_option Elab.async false
set_option linter.all false
set_option maxRecDepth 100000
set_option autoImplicit false
namespace VI
open PySem L2
theorem pair_inj {l m : Line} : l.pair = m.pair ↔ l.seen = m.seen ∧ l.viewer = m.viewer := by simp [Line.pair, kS_inj]
theorem find_pair {s v : Str} : ∀ xs : List Line, (xs.find? fun x => decide (x.pair = [kS s, kS v])) = xs.find? fun l => decide (l.seen = s) && decide (l.viewer = v)
  | [] => rfl
  | x :: xs => by
    have ih := find_pair (s := s) (v := v) xs
    by_cases h : x.seen = s ∧ x.viewer = v
    · rw [List.find?_cons_of_pos (by simp [Line.pair, kS_inj, h.1, h.2]), List.find?_cons_of_pos (by simp [h.1, h.2])]
    · have h1 : ¬ (x.pair = [kS s, kS v]) := by simp only [Line.pair, List.cons.injEq, kS_inj, and_true]; exact h
      rw [List.find?_cons_of_neg (by simpa using h1), List.find?_cons_of_neg (by simpa using h)]; exact ih
section
variable {b : Bool} {N : Net} {s v : Str}
@[simp] theorem sign_len {c : Nat} : Str.length ⟨#[c]⟩ = 1 := (rfl)
@[simp] theorem keysD_two {a c : Str} : keysD [.str a, .str c] = some [kS a, kS c] := (rfl)
@[simp] theorem look_pair : look (N.lines.map Line.pair) (N.lines.map Line.span) [kS s, kS v] = (N.span s v).map Line.span := by
  rw [look_map, find_pair]; rfl
@[simp] theorem inD_dtt {ks : List (List Key)} {ds : List D} {a c : Str} : inD (.tup [.str a, .str c]) (.dtt b ks ds) = some (.bl (look ks ds [kS a, kS c]).isSome) := (rfl)
@[simp] theorem getD1_dtt {ks : List (List Key)} {ds : List D} {a c : Str} : getD1 (.dtt b ks ds) (.tup [.str a, .str c]) = some (look ks ds [kS a, kS c]) := (rfl)
@[simp] theorem getD1_dct {ks : List Key} {ds : List D} {a : Str} : getD1 (.dct b ks ds) (.str a) = some (look ks ds (kS a)) := (rfl)
@[simp] theorem mGet1_run {mo mk : Ev → Option D} {A : Ev} : mGet1 mo mk A = (mo A).bind fun x => (mk A).bind fun k => (getD1 x k).map fun r => r.getD .non := (rfl)
theorem span_mem (nd : (N.lines.map Line.pair).Nodup) {l : Line} (h : l ∈ N.lines) : N.span l.seen l.viewer = some l := by
  unfold Net.span
  generalize N.lines = ls at *
  induction ls with
  | nil => cases h
  | cons x xs ih =>
    rw [List.map_cons, List.nodup_cons] at nd
    rcases List.mem_cons.mp h with rfl | h
    · rw [List.find?_cons_of_pos (by simp)]
    · rw [List.find?_cons_of_neg]
      · exact ih nd.2 h
      · simp only [Bool.and_eq_true, decide_eq_true_eq]
        intro e
        exact nd.1 (List.mem_map.mpr ⟨l, h, pair_inj.mpr ⟨e.1.symm, e.2.symm⟩⟩)
theorem lines_ap (nd : (N.lines.map Line.pair).Nodup) (hm : N.lines.length < 1000) : ap f_m_Network_lines [netD b N] = some (.lst true (N.lines.map Line.tup)) := by
  have loop := for_det (g := tgTup 2 (tgCons (tgN 2) (tgCons (tgN 3) tgNil))) (mb := l1_m_Network_lines) (fun l : Line => D.tup [.str l.seen, .str l.viewer])
    (fun i => [some (netD false N), some (.lst true ((N.lines.take i).map Line.tup)), none, none, none, none]) N.lines (fun i l hi => by
      have hl := List.mem_of_getElem? hi
      have hlt : min i N.lines.length < 1000000 := by omega
      refine .inl ?_
      cases hmo : l.most <;> simp [l1_m_Network_lines, tgTup, tgCons, tgNil, subscr, span_mem nd hl, Line.span, hmo, hlt, List.take_succ, hi, Line.tup])
  simp only [List.take_length] at loop
  refine ap_run rfl ?_ (by simp)
  have ek : ((fun k : List Key => D.tup (k.map keyV)) ∘ Line.pair) = fun l : Line => D.tup [.str l.seen, .str l.viewer] := rfl
  rw [show List.take 0 N.lines = [] from rfl, List.map_nil] at loop
  simp [env0, b_m_Network_lines, ek, loop]
end
end VI
set_option Elab.async false
set_option linter.all false
set_option maxRecDepth 100000
set_option autoImplicit false
namespace VI
open PySem L2
theorem cell_ap (ns : List Int) (k : Nat) : ap f_d_law_cell [.scr ns, .int k] = some (.int (ns.getD k 0)) := by
  refine ap_run rfl ?_ (by simp)
  by_cases h : k < ns.length
  · simp [env0, b_d_law_cell, h, atI_nat]
  · simp [env0, b_d_law_cell, h]
theorem cell_ap' (ns : List Int) (i : Int) (h : 0 ≤ i := by decide) : ap f_d_law_cell [.scr ns, .int i] = some (.int (ns.getD i.toNat 0)) := by
  have := cell_ap ns i.toNat
  rwa [Int.toNat_of_nonneg h] at this
@[simp] theorem isint_ap {i : Int} : ap f_d_law_is_integer [.int i] = some (.bl true) := ap_run rfl (by simp [env0, b_d_law_is_integer]) (by simp)
theorem rangeD1_nat {n : Nat} (h : n ≤ 1000000) : rangeD1 [.int n] = some ((List.range n).map fun k : Nat => D.int k) := by
  unfold rangeD1
  simp only [if_pos (show (n : Int).natAbs ≤ 1000000 by omega)]
  simp
theorem range_at {n i k : Nat} (h : (List.range n)[i]? = some k) : k = i ∧ i < n := by
  by_cases hi : i < n
  · rw [List.getElem?_range hi] at h; cases h; exact ⟨rfl, hi⟩
  · rw [List.getElem?_eq_none (by simpa using hi)] at h; cases h
def Digits (row : List Int) : Prop := ∀ x ∈ row, 0 ≤ x ∧ x < 1000
theorem row_ap (c : Int) (n : Nat) (hn : n ≤ 1000) : ∃ row : List Int, row.length = n ∧ Digits row ∧ ap f_d_law_row [.int c, .int n] = some (.lst true (row.map D.int)) := by
  obtain ⟨⟨row, r, m⟩, h1, hl, hb⟩ := for_inv (g := tgN 5) (mb := l1_d_law_row) (fun k : Nat => D.int k)
    (fun s : List Int × Int × Int => [some (.int c), some (.int n), some (.lst true (s.1.map D.int)), some (.int s.2.1), some (.int s.2.2), none])
    (fun i s => s.1.length = i ∧ Digits s.1) (List.range n) ([], (if c < 0 then -c else c), (c * 48271 + 17) % 2147483647) ⟨rfl, by simp [Digits]⟩ (by
      rintro i k ⟨row, r, m⟩ hk ⟨hl, hb⟩
      obtain ⟨rfl, hi⟩ := range_at hk
      simp only at hl
      have hlen : row.length < 1000000 := by omega
      by_cases hc : (if c < 0 then -c else c) < 1000000000000000000
      · refine ⟨(row ++ [(m * 16807 + 40692) % 2147483399 / 11 % 1000], r, (m * 16807 + 40692) % 2147483399), .inl (by simp [l1_d_law_row, hc, hlen]), by simp [hl], ?_⟩
        intro x hx
        rcases List.mem_append.mp hx with hx | hx
        · exact hb x hx
        · simp at hx; subst hx; omega
      · refine ⟨(row ++ [r % 1000], r / 1000, m), .inl (by simp [l1_d_law_row, hc, hlen]), by simp [hl], ?_⟩
        intro x hx
        rcases List.mem_append.mp hx with hx | hx
        · exact hb x hx
        · simp at hx; subst hx; omega)
  simp only at hl hb
  refine ⟨row, by simpa using hl, hb, ap_run rfl ?_ (by simp)⟩
  have hr := rangeD1_nat (n := n) (by omega)
  simp only [List.map_nil] at h1
  simp [env0, b_d_law_row, hr, h1]
theorem eqF_str {a b : Str} : eqF (.str a) (.str b) = decide (a = b) := by
  show (a == b) = _
  rw [Bool.eq_iff_iff]; simp
theorem eqF_int {a b : Int} : eqF (.int a) (.int b) = decide (a = b) := by
  show (a == b) = _
  rw [Bool.eq_iff_iff]; simp
theorem inF_str {s : Str} {ns : List Str} : inF (.str s) (ns.map D.str) = decide (s ∈ ns) := by
  unfold inF
  rw [List.any_map, Bool.eq_iff_iff]
  simp [eqF_str, Function.comp]
theorem inF_int {s : Int} {ns : List Int} : inF (.int s) (ns.map D.int) = decide (s ∈ ns) := by
  unfold inF
  rw [List.any_map, Bool.eq_iff_iff]
  simp [eqF_int, Function.comp]
@[simp] theorem inD_strs {b : Bool} {s : Str} {ns : List Str} : inD (.str s) (.lst b (ns.map D.str)) = some (.bl (decide (s ∈ ns))) := by
  show (if flatD (.str s) = true ∧ (ns.map D.str).all flatD = true then some (D.bl (inF (.str s) (ns.map D.str))) else _) = _
  rw [if_pos ⟨rfl, by simp [flatD]⟩, inF_str]
@[simp] theorem inD_ints {b : Bool} {s : Int} {ns : List Int} : inD (.int s) (.lst b (ns.map D.int)) = some (.bl (decide (s ∈ ns))) := by
  show (if flatD (.int s) = true ∧ (ns.map D.int).all flatD = true then some (D.bl (inF (.int s) (ns.map D.int))) else _) = _
  rw [if_pos ⟨rfl, by simp [flatD]⟩, inF_int]
@[simp] theorem str_len_app {a b : Str} : (a ++ b).length = a.length + b.length := by
  show (Str.append a b).length = _
  simp [Str.append, Str.length]
theorem str_app_cps {a b : Str} : (a ++ b).cps.toList = a.cps.toList ++ b.cps.toList := by
  show (Str.append a b).cps.toList = _
  simp [Str.append]
theorem at_row {row : List Int} {i : Nat} (h : i < row.length) : atI (row.map D.int) (i : Int) = some (.int row[i]) := by
  rw [atI_nat (by simpa using h), List.getElem?_map, List.getElem?_eq_getElem h]; rfl
theorem cell_ex (ns : List Int) (i : Int) (h : 0 ≤ i := by decide) : ∃ c, ap f_d_law_cell [.scr ns, .int i] = some (.int c) := ⟨_, cell_ap' ns i h⟩
theorem row_ex (c i : Int) (h0 : 0 ≤ i := by decide) (hn : i ≤ 1000 := by decide) : ∃ row : List Int, (row.length : Int) = i ∧ Digits row ∧ ap f_d_law_row [.int c, .int i] = some (.lst true (row.map D.int)) := by
  obtain ⟨k, rfl⟩ := Int.eq_ofNat_of_zero_le h0
  obtain ⟨row, h1, h2, h3⟩ := row_ap c k (by omega)
  exact ⟨row, by rw [h1], h2, h3⟩
end VI
set_option Elab.async false
set_option linter.all false
set_option maxRecDepth 100000
set_option autoImplicit false
namespace VI
open PySem L2
mutual
def D.fit : Nat → D → Bool
  | _, .non => true
  | _, .bl _ => true
  | _, .int _ => true
  | _, .str s => PyData.strOk s
  | n + 1, .tup xs => fitL n xs
  | n + 1, .lst _ xs => fitL n xs
  | _, _ => false
def D.fitL : Nat → List D → Bool
  | _, [] => true
  | n, x :: xs => x.fit n && fitL n xs
end
mutual
def D.same : D → D → Bool
  | .non, .non => true
  | .bl a, .bl b => decide (a = b)
  | .bl a, .int b => decide ((if a then 1 else 0) = b)
  | .int a, .bl b => decide (a = (if b then 1 else 0))
  | .int a, .int b => decide (a = b)
  | .str a, .str b => decide (a = b)
  | .tup xs, .tup ys => sameL xs ys
  | .lst _ xs, .lst _ ys => sameL xs ys
  | _, _ => false
def D.sameL : List D → List D → Bool
  | [], [] => true
  | x :: xs, y :: ys => x.same y && sameL xs ys
  | _, _ => false
end
mutual
theorem fit_py : ∀ {n : Nat} {x : D}, x.fit n = true → ∃ p, x.py = some p ∧ p.canLay0 = true ∧ p.depth ≤ n
  | n, .non, _ => ⟨_, rfl, rfl, Nat.zero_le _⟩
  | n, .bl _, _ => ⟨_, rfl, rfl, Nat.zero_le _⟩
  | n, .int _, _ => ⟨_, rfl, rfl, Nat.zero_le _⟩
  | n, .str s, h => ⟨_, rfl, by simpa [D.fit, PyData.canLay0] using h, Nat.zero_le _⟩
  | 0, .tup xs, h => by simp [D.fit] at h
  | 0, .lst _ xs, h => by simp [D.fit] at h
  | n + 1, .tup xs, h => by
    obtain ⟨ps, e, c, d⟩ := fitL_py (n := n) (xs := xs) (by simpa [D.fit] using h)
    exact ⟨.tuple ps, by simp [D.py, e], by simpa [PyData.canLay0] using c, by simp [PyData.depth]; omega⟩
  | n + 1, .lst _ xs, h => by
    obtain ⟨ps, e, c, d⟩ := fitL_py (n := n) (xs := xs) (by simpa [D.fit] using h)
    exact ⟨.list ps, by simp [D.py, e], by simpa [PyData.canLay0] using c, by simp [PyData.depth]; omega⟩
  | n, .dct _ _ _, h => by cases n <;> simp [D.fit] at h
  | n, .dtt _ _ _, h => by cases n <;> simp [D.fit] at h
  | n, .obj _ _ _ _, h => by cases n <;> simp [D.fit] at h
  | n, .scr _, h => by cases n <;> simp [D.fit] at h
  | n, .ktup _, h => by cases n <;> simp [D.fit] at h
  | n, .exc _ _ _, h => by cases n <;> simp [D.fit] at h
  | n, .hol _, h => by cases n <;> simp [D.fit] at h
  | n, .lsa _ _, h => by cases n <;> simp [D.fit] at h
theorem fitL_py : ∀ {n : Nat} {xs : List D}, D.fitL n xs = true → ∃ ps, D.pyL xs = some ps ∧ PyData.canLayAll0 ps = true ∧ PyData.depthAll ps ≤ n
  | n, [], _ => ⟨[], rfl, rfl, Nat.zero_le _⟩
  | n, x :: xs, h => by
    simp only [D.fitL, Bool.and_eq_true] at h
    obtain ⟨p, e, c, d⟩ := fit_py h.1
    obtain ⟨ps, es, cs, ds⟩ := fitL_py h.2
    exact ⟨p :: ps, by simp [D.pyL, e, es], by simp [PyData.canLayAll0, c, cs], by simp [PyData.depthAll]; omega⟩
end
theorem beq_dec {α : Type} [DecidableEq α] (a b : α) : (a == b) = decide (a = b) := by rw [Bool.eq_iff_iff]; simp
mutual
theorem same_py : ∀ {x y : D} {p q : PyData}, x.py = some p → y.py = some q → PyData.eqv p q = x.same y
  | .non, y, p, q, h, k => by cases y <;> simp [D.py] at h k <;> (try obtain ⟨_, _, rfl⟩ := k) <;> (try subst k) <;> subst h <;> simp [PyData.eqv, D.same]
  | .bl a, y, p, q, h, k => by cases y <;> simp [D.py] at h k <;> (try obtain ⟨_, _, rfl⟩ := k) <;> (try subst k) <;> subst h <;> simp [PyData.eqv, D.same, beq_dec]
  | .int a, y, p, q, h, k => by cases y <;> simp [D.py] at h k <;> (try obtain ⟨_, _, rfl⟩ := k) <;> (try subst k) <;> subst h <;> simp [PyData.eqv, D.same, beq_dec]
  | .str a, y, p, q, h, k => by cases y <;> simp [D.py] at h k <;> (try obtain ⟨_, _, rfl⟩ := k) <;> (try subst k) <;> subst h <;> simp [PyData.eqv, D.same, beq_dec]
  | .tup xs, y, p, q, h, k => by
    simp only [D.py, Option.map_eq_some_iff] at h
    obtain ⟨ps, h, rfl⟩ := h
    cases y <;> simp [D.py] at k <;> (try obtain ⟨qs, k, rfl⟩ := k) <;> (try subst k) <;> simp [PyData.eqv, D.same]
    exact sameL_py h k
  | .lst _ xs, y, p, q, h, k => by
    simp only [D.py, Option.map_eq_some_iff] at h
    obtain ⟨ps, h, rfl⟩ := h
    cases y <;> simp [D.py] at k <;> (try obtain ⟨qs, k, rfl⟩ := k) <;> (try subst k) <;> simp [PyData.eqv, D.same]
    exact sameL_py h k
  | .dct _ _ _, _, _, _, h, _ => by simp [D.py] at h
  | .dtt _ _ _, _, _, _, h, _ => by simp [D.py] at h
  | .obj _ _ _ _, _, _, _, h, _ => by simp [D.py] at h
  | .scr _, _, _, _, h, _ => by simp [D.py] at h
  | .ktup _, _, _, _, h, _ => by simp [D.py] at h
  | .exc _ _ _, _, _, _, h, _ => by simp [D.py] at h
  | .hol _, _, _, _, h, _ => by simp [D.py] at h
  | .lsa _ _, _, _, _, h, _ => by simp [D.py] at h
theorem sameL_py : ∀ {xs ys : List D} {ps qs : List PyData}, D.pyL xs = some ps → D.pyL ys = some qs → PyData.eqvAll ps qs = D.sameL xs ys
  | [], ys, ps, qs, h, k => by
    cases h
    cases ys with
    | nil => cases k; rfl
    | cons y ys =>
      simp only [D.pyL, Option.bind_eq_some_iff, Option.map_eq_some_iff] at k
      obtain ⟨_, _, _, _, rfl⟩ := k
      rfl
  | x :: xs, ys, ps, qs, h, k => by
    simp only [D.pyL, Option.bind_eq_some_iff, Option.map_eq_some_iff] at h
    obtain ⟨p, h1, ps, h2, rfl⟩ := h
    cases ys with
    | nil => cases k; rfl
    | cons y ys =>
      simp only [D.pyL, Option.bind_eq_some_iff, Option.map_eq_some_iff] at k
      obtain ⟨q, k1, qs, k2, rfl⟩ := k
      simp only [PyData.eqvAll, D.sameL, same_py h1 k1, sameL_py h2 k2]
end
theorem eqP_fit {x y : D} (h : x.fit 64 = true) (k : y.fit 64 = true) : eqP x y = some (x.same y) := by
  obtain ⟨p, e, c, d⟩ := fit_py h
  obtain ⟨q, e2, c2, d2⟩ := fit_py k
  unfold eqP
  rw [e, e2]
  simp only [Option.bind_some]
  rw [if_pos ⟨by simp [SeqAt.shaped, c, d], by simp [SeqAt.shaped, c2, d2]⟩, same_py e e2]
theorem eqD_fit {x y : D} (h : x.fit 64 = true) (k : y.fit 64 = true) : eqD x y = some (.bl (x.same y)) := by
  have e := eqP_fit h k
  cases x <;> cases y <;> simp only [eqD, e, Option.map_some] <;> simp [D.same] <;> simp [D.fit] at h
theorem neD_fit {x y : D} (h : x.fit 64 = true) (k : y.fit 64 = true) : neD x y = some (.bl (!x.same y)) := by
  unfold neD
  rw [eqD_fit h k]
theorem eqF_same {x y : D} (h : flatD x = true) (k : flatD y = true) : eqF x y = x.same y := by
  cases x <;> simp [flatD] at h <;> cases y <;> simp [flatD] at k <;> simp [eqF, D.same, beq_dec]
theorem any_py {x : D} {p : PyData} (e : x.py = some p) : ∀ {xs : List D} {ps : List PyData}, D.pyL xs = some ps → (ps.any fun z => PyData.eqv z p) = xs.any fun y => y.same x
  | [], ps, h => by cases h; rfl
  | z :: zs, ps, h => by
    simp only [D.pyL, Option.bind_eq_some_iff, Option.map_eq_some_iff] at h
    obtain ⟨q, k1, qs, k2, rfl⟩ := h
    simp only [List.any_cons, same_py k1 e, any_py e k2]
theorem inF_same {x : D} (h : flatD x = true) : ∀ {xs : List D}, xs.all flatD = true → inF x xs = xs.any fun y => y.same x
  | [], _ => rfl
  | z :: zs, k => by
    simp only [List.all_cons, Bool.and_eq_true] at k
    have ih := inF_same h k.2
    unfold inF at ih ⊢
    simp only [List.any_cons, eqF_same k.1 h, ih]
theorem inD_fit {b : Bool} {x : D} {xs : List D} (h : x.fit 63 = true) (k : D.fitL 63 xs = true) : inD x (.lst b xs) = some (.bl (xs.any fun y => y.same x)) := by
  show (if flatD x = true ∧ xs.all flatD = true then some (D.bl (inF x xs)) else (inP x xs).map .bl) = _
  split
  · rename_i hf
    rw [inF_same hf.1 hf.2]
  · obtain ⟨p, e, c, d⟩ := fit_py h
    obtain ⟨ps, e2, c2, d2⟩ := fitL_py k
    unfold inP
    rw [e, e2]
    simp only [Option.bind_some]
    rw [if_pos ⟨by simp [SeqAt.shaped, c]; omega, by simp [SeqAt.shaped, PyData.canLay0, PyData.depth, c2]; omega⟩, any_py e e2]
    rfl
@[simp] theorem same_nn : D.same .non .non = true := (rfl)
@[simp] theorem same_ii {a b : Int} : D.same (.int a) (.int b) = decide (a = b) := (rfl)
@[simp] theorem same_bb {a b : Bool} : D.same (.bl a) (.bl b) = decide (a = b) := (rfl)
@[simp] theorem same_ss {a b : Str} : D.same (.str a) (.str b) = decide (a = b) := (rfl)
@[simp] theorem same_tt {a b : List D} : D.same (.tup a) (.tup b) = D.sameL a b := (rfl)
@[simp] theorem same_ll {a b : List D} {m n : Bool} : D.same (.lst m a) (.lst n b) = D.sameL a b := (rfl)
@[simp] theorem sameL_nn : D.sameL [] [] = true := (rfl)
@[simp] theorem sameL_cc {x y : D} {xs ys : List D} : D.sameL (x :: xs) (y :: ys) = (x.same y && D.sameL xs ys) := (rfl)
@[simp] theorem sameL_nc {y : D} {ys : List D} : D.sameL [] (y :: ys) = false := (rfl)
@[simp] theorem sameL_cn {x : D} {xs : List D} : D.sameL (x :: xs) [] = false := (rfl)
@[simp] theorem fit_non {n : Nat} : D.fit n .non = true := by cases n <;> rfl
@[simp] theorem fit_int {n : Nat} {i : Int} : D.fit n (.int i) = true := by cases n <;> rfl
@[simp] theorem fit_bl {n : Nat} {i : Bool} : D.fit n (.bl i) = true := by cases n <;> rfl
@[simp] theorem fit_str {n : Nat} {s : Str} : D.fit n (.str s) = PyData.strOk s := by cases n <;> rfl
@[simp] theorem fit_tup {n : Nat} {xs : List D} : D.fit (n + 1) (.tup xs) = D.fitL n xs := (rfl)
@[simp] theorem fit_lst {n : Nat} {b : Bool} {xs : List D} : D.fit (n + 1) (.lst b xs) = D.fitL n xs := (rfl)
@[simp] theorem fitL_nil {n : Nat} : D.fitL n [] = true := by cases n <;> rfl
@[simp] theorem fitL_cons {n : Nat} {x : D} {xs : List D} : D.fitL n (x :: xs) = (x.fit n && D.fitL n xs) := by cases n <;> rfl
@[simp] theorem fitL_append {n : Nat} {xs ys : List D} : D.fitL n (xs ++ ys) = (D.fitL n xs && D.fitL n ys) := by induction xs with | nil => simp | cons x xs ih => simp [ih, Bool.and_assoc]
@[simp] theorem fitL_map {α : Type} {n : Nat} {g : α → D} {xs : List α} : D.fitL n (xs.map g) = xs.all fun x => (g x).fit n := by induction xs with | nil => simp | cons x xs ih => simp [ih]
@[simp] theorem fitL_take {α : Type} {n j : Nat} {g : α → D} {xs : List α} : D.fitL n ((xs.map g).take j) = (xs.take j).all fun x => (g x).fit n := by rw [← List.map_take, fitL_map]
@[simp] theorem fitL_drop {α : Type} {n j : Nat} {g : α → D} {xs : List α} : D.fitL n ((xs.map g).drop j) = (xs.drop j).all fun x => (g x).fit n := by rw [← List.map_drop, fitL_map]
theorem sameL_map {α : Type} [DecidableEq α] {g h : α → D} (inj : ∀ a c : α, (g a).same (h c) = decide (a = c)) : ∀ xs ys : List α, D.sameL (xs.map g) (ys.map h) = decide (xs = ys)
  | [], [] => rfl
  | [], y :: ys => rfl
  | x :: xs, [] => rfl
  | x :: xs, y :: ys => by
    simp only [List.map_cons, sameL_cc, inj, sameL_map inj xs ys, List.cons.injEq, Bool.decide_and]
@[simp] theorem sameL_ints {xs ys : List Int} : D.sameL (xs.map D.int) (ys.map D.int) = decide (xs = ys) := sameL_map (fun _ _ => rfl) xs ys
@[simp] theorem sameL_strs {xs ys : List Str} : D.sameL (xs.map D.str) (ys.map D.str) = decide (xs = ys) := sameL_map (fun _ _ => rfl) xs ys
@[simp] theorem sameL_bls {xs ys : List Bool} : D.sameL (xs.map D.bl) (ys.map D.bl) = decide (xs = ys) := sameL_map (fun _ _ => rfl) xs ys
mutual
theorem same_refl : ∀ {n : Nat} {x : D}, x.fit n = true → x.same x = true
  | n, .non, _ => rfl
  | n, .bl _, _ => by simp
  | n, .int _, _ => by simp
  | n, .str s, h => by simp
  | 0, .tup xs, h => by simp [D.fit] at h
  | 0, .lst _ xs, h => by simp [D.fit] at h
  | n + 1, .tup xs, h => by simp only [same_tt]; exact sameL_refl (n := n) (by simpa using h)
  | n + 1, .lst _ xs, h => by simp only [same_ll]; exact sameL_refl (n := n) (by simpa using h)
  | n, .dct _ _ _, h => by cases n <;> simp [D.fit] at h
  | n, .dtt _ _ _, h => by cases n <;> simp [D.fit] at h
  | n, .obj _ _ _ _, h => by cases n <;> simp [D.fit] at h
  | n, .scr _, h => by cases n <;> simp [D.fit] at h
  | n, .ktup _, h => by cases n <;> simp [D.fit] at h
  | n, .exc _ _ _, h => by cases n <;> simp [D.fit] at h
  | n, .hol _, h => by cases n <;> simp [D.fit] at h
  | n, .lsa _ _, h => by cases n <;> simp [D.fit] at h
theorem sameL_refl : ∀ {n : Nat} {xs : List D}, D.fitL n xs = true → D.sameL xs xs = true
  | n, [], _ => rfl
  | n, x :: xs, h => by
    simp only [fitL_cons, Bool.and_eq_true] at h
    simp only [sameL_cc, same_refl h.1, sameL_refl h.2, Bool.and_self]
end
section
variable {x y : D} {xs ys : List D} {b c : Bool}
@[simp] theorem eqD_tt (h : D.fitL 63 xs = true) (k : D.fitL 63 ys = true) : eqD (.tup xs) (.tup ys) = some (.bl (D.sameL xs ys)) := eqD_fit (x := .tup xs) (y := .tup ys) h k
@[simp] theorem eqD_ll (h : D.fitL 63 xs = true) (k : D.fitL 63 ys = true) : eqD (.lst b xs) (.lst c ys) = some (.bl (D.sameL xs ys)) := eqD_fit (x := .lst b xs) (y := .lst c ys) h k
@[simp] theorem neD_tt (h : D.fitL 63 xs = true) (k : D.fitL 63 ys = true) : neD (.tup xs) (.tup ys) = some (.bl (!D.sameL xs ys)) := neD_fit (x := .tup xs) (y := .tup ys) h k
@[simp] theorem neD_ll (h : D.fitL 63 xs = true) (k : D.fitL 63 ys = true) : neD (.lst b xs) (.lst c ys) = some (.bl (!D.sameL xs ys)) := neD_fit (x := .lst b xs) (y := .lst c ys) h k
@[simp] theorem inD_tl (h : D.fitL 62 xs = true) (k : D.fitL 63 ys = true) : inD (.tup xs) (.lst c ys) = some (.bl (ys.any fun y => y.same (.tup xs))) := inD_fit (x := .tup xs) h k
@[simp] theorem ninD_tl (h : D.fitL 62 xs = true) (k : D.fitL 63 ys = true) : ninD (.tup xs) (.lst c ys) = some (.bl (!ys.any fun y => y.same (.tup xs))) := by
  unfold ninD; rw [inD_tl h k]
@[simp] theorem ninD_strs {s : Str} {ns : List Str} : ninD (.str s) (.lst b (ns.map D.str)) = some (.bl (!decide (s ∈ ns))) := by
  unfold ninD; rw [inD_strs]
@[simp] theorem ninD_dct {ks : List Key} {ds : List D} {s : Str} : ninD (.str s) (.dct b ks ds) = some (.bl (!(look ks ds (kS s)).isSome)) := (rfl)
end
theorem NameOk.fit {s : Str} (h : NameOk s) : PyData.strOk s = true := by
  unfold PyData.strOk
  rw [← Array.all_toList, List.all_eq_true]
  intro c hc
  have := h.low c hc
  simp only [decide_eq_true_eq]; omega
@[simp] theorem optD_fit {n : Nat} {o : Option Int} : (optD o).fit n = true := by cases o <;> simp
@[simp] theorem optD_same {o p : Option Int} : (optD o).same (optD p) = decide (o = p) := by cases o <;> cases p <;> simp [D.same]
@[simp] theorem sameL_self {xs : List D} (h : D.fitL 63 xs = true) : D.sameL xs xs = true := sameL_refl h
@[simp] theorem line_tup_fit {n : Nat} {l : Line} : l.tup.fit (n + 1) = (PyData.strOk l.seen && PyData.strOk l.viewer) := by simp [Line.tup]
@[simp] theorem line_tup_same {l m : Line} : l.tup.same m.tup = decide (l = m) := by
  obtain ⟨a, b, c, d⟩ := l
  obtain ⟨a', b', c', d'⟩ := m
  simp only [Line.tup, same_tt, sameL_cc, same_ss, same_ii, optD_same, sameL_nn, Bool.and_true, Line.mk.injEq]
  simp only [Bool.decide_and]
@[simp] theorem sameL_lines {xs ys : List Line} : D.sameL (xs.map Line.tup) (ys.map Line.tup) = decide (xs = ys) := sameL_map (fun _ _ => line_tup_same) xs ys
def linesFit (ls : List Line) : Bool := ls.all fun l => PyData.strOk l.seen && PyData.strOk l.viewer
@[simp 1100] theorem fitL_lines {n : Nat} {ls : List Line} : D.fitL (n + 1) (ls.map Line.tup) = linesFit ls := by rw [fitL_map]; simp only [line_tup_fit]; rfl
@[simp 1100] theorem fitL_linesT {n j : Nat} {ls : List Line} : D.fitL (n + 1) ((ls.map Line.tup).take j) = linesFit (ls.take j) := by rw [← List.map_take, fitL_lines]
end VI
set_option Elab.async false
set_option linter.all false
set_option maxRecDepth 100000
set_option autoImplicit false
namespace VI
open PySem L2
def tblD (b : Bool) (ks : List Str) (T : Str → Int) : D := .dct b (ks.map kS) (ks.map fun n => .int (T n))
section
variable {b c : Bool} {ks : List Str} {T : Str → Int} {s : Str}
@[simp] theorem tbl_frz : (tblD b ks T).frz = tblD false ks T := by simp [tblD]
@[simp] theorem tbl_plain : (tblD b ks T).plain = !b := rfl
@[simp] theorem tbl_clean : (tblD b ks T).clean = b := by simp [tblD]
@[simp] theorem tbl_in : inD (.str s) (tblD b ks T) = some (.bl (decide (s ∈ ks))) := by
  by_cases h : s ∈ ks <;> simp [tblD, h]
@[simp] theorem tbl_keys : keysOf (tblD false ks T) = some (ks.map D.str) := by
  simp [tblD]; exact fun _ _ => rfl
@[simp] theorem tbl_lst : lstD [tblD b ks T] = some (.lst true (ks.map D.str)) := by
  simp [tblD]; exact fun _ _ => rfl
end
def momentC (ls : List Line) (T : Str → Int) (d : Int) : Int := ls.foldl (fun m l => if l.most = none then m else min m (T l.seen + l.least)) d
def dims (ls : List Line) (T : Str → Int) : List Int := (ls.filter fun l => decide (l.most = none)).map fun l => T l.seen + l.least
def moment (ls : List Line) (T : Str → Int) (need d : Int) : Int := if need ≤ (dims ls T).length then min (momentC ls T d) ((sortI (dims ls T)).getD (need.toNat - 1) 0) else momentC ls T d
theorem sortI_len {xs : List Int} : (sortI xs).length = xs.length := (sortI_perm xs).length_eq
def Net.soonest (N : Net) (T : Str → Int) (s : Str) : Int := moment (N.to s) T (N.need s) N.dawn
def dueF (ls : List Line) (T : Str → Int) (d : Int) : Int := ls.foldl (fun m l => match l.most with | none => m | some k => min m (T l.seen + k)) d
def Net.due (N : Net) (T : Str → Int) (s : Str) : Int := dueF (N.to s) T N.dawn
theorem to_mem {N : Net} {s : Str} {l : Line} (h : l ∈ N.to s) : l ∈ N.lines ∧ l.viewer = s := by
  unfold Net.to at h
  rw [List.mem_filter] at h
  exact ⟨h.1, by simpa using h.2⟩
section
variable {b c : Bool} {N : Net} {ks : List Str} {T : Str → Int} {s : Str}
end
def lineL (b : Bool) (l : Line) : D := .lst b [.str l.seen, .str l.viewer, .int l.least, optD l.most]
@[simp] theorem lineL_frz {b : Bool} {l : Line} : (lineL b l).frz = lineL false l := by simp [lineL]
@[simp] theorem lineL_plain {b : Bool} {l : Line} : (lineL b l).plain = !b := rfl
@[simp] theorem lineL_clean {b : Bool} {l : Line} : (lineL b l).clean = b := by simp [lineL]
def caseE (b c e : Bool) (N : Net) : D := .lst b [.int N.dawn, .lst c (N.names.map D.str), .lst c (N.names.map fun n => .bl (N.look n)), .lst c (N.names.map fun n => .int (N.need n)), .lst e (N.lines.map (lineL false))]
section
variable {b c e : Bool} {N : Net}
@[simp] theorem caseD_frz : (caseE b c e N).frz = caseE false false false N := by simp [caseE]
@[simp] theorem caseD_plain : (caseE b c e N).plain = !b := rfl
@[simp] theorem case0 : subscr (caseE b c e N) (.int 0) = some (.int N.dawn) := by simp [caseE]
@[simp] theorem case1 : subscr (caseE b c e N) (.int 1) = some (.lst c (N.names.map D.str)) := by simp [caseE]
@[simp] theorem case2 : subscr (caseE b c e N) (.int 2) = some (.lst c (N.names.map fun n => .bl (N.look n))) := by simp [caseE]
@[simp] theorem case3 : subscr (caseE b c e N) (.int 3) = some (.lst c (N.names.map fun n => .int (N.need n))) := by simp [caseE]
@[simp] theorem case4 : subscr (caseE b c e N) (.int 4) = some (.lst e (N.lines.map (lineL false))) := by simp [caseE]
end
section
variable {b : Bool} {l : Line}
@[simp] theorem line0 : subscr (lineL b l) (.int 0) = some (.str l.seen) := by simp [lineL]
@[simp] theorem line1 : subscr (lineL b l) (.int 1) = some (.str l.viewer) := by simp [lineL]
@[simp] theorem line2 : subscr (lineL b l) (.int 2) = some (.int l.least) := by simp [lineL]
@[simp] theorem line3 : subscr (lineL b l) (.int 3) = some (optD l.most) := by simp [lineL]
end
structure SInv (names : List Str) (vw : Str) (k : Nat) (ls : List Line) : Prop where
  len : ls.length ≤ 2 * k
  ok : ∀ l ∈ ls, l.Ok names
  nd : (ls.map Line.pair).Nodup
  at_ : ∀ l ∈ ls, ∃ j < k, (l.viewer = vw ∧ names[j]? = some l.seen) ∨ (l.seen = vw ∧ names[j]? = some l.viewer)
theorem pairs_app {ls : List Line} {l : Line} (h : (ls.map Line.pair).Nodup) (n : ∀ m ∈ ls, m.pair ≠ l.pair) : ((ls ++ [l]).map Line.pair).Nodup := by
  rw [List.map_append, List.nodup_append]
  refine ⟨h, by simp, fun a ha b hb e => ?_⟩
  simp at hb; subst hb
  obtain ⟨m, hm, rfl⟩ := List.mem_map.mp ha
  exact n m hm e
theorem minF_spec {α : Type} (f : α → Option Int) : ∀ (ls : List α) (d : Int), let m := ls.foldl (fun m l => match f l with | none => m | some k => min m k) d
    m ≤ d ∧ (∀ l ∈ ls, ∀ k, f l = some k → m ≤ k) ∧ (m = d ∨ ∃ l ∈ ls, f l = some m)
  | [], d => ⟨Int.le_refl _, by simp, .inl rfl⟩
  | l :: ls, d => by
    simp only [List.foldl_cons]
    cases hf : f l with
    | none =>
      obtain ⟨h1, h2, h3⟩ := minF_spec f ls d
      refine ⟨h1, fun x hx k hk => ?_, h3.imp id fun ⟨x, hx, e⟩ => ⟨x, by simp [hx], e⟩⟩
      rcases List.mem_cons.mp hx with rfl | hx
      · rw [hf] at hk; cases hk
      · exact h2 x hx k hk
    | some k0 =>
      obtain ⟨h1, h2, h3⟩ := minF_spec f ls (min d k0)
      refine ⟨by simp only; omega, fun x hx k hk => ?_, ?_⟩
      · rcases List.mem_cons.mp hx with rfl | hx
        · rw [hf] at hk; cases hk; simp only; omega
        · exact h2 x hx k hk
      · rcases h3 with h3 | ⟨x, hx, e⟩
        · rcases Int.le_total d k0 with h | h
          · exact .inl (by simp only; rw [h3]; omega)
          · exact .inr ⟨l, by simp, by rw [h3, hf]; congr 1; omega⟩
        · exact .inr ⟨x, by simp [hx], e⟩
theorem momentC_min {ls : List Line} {T : Str → Int} {d : Int} : momentC ls T d = ls.foldl (fun m l => match (if l.most = none then none else some (T l.seen + l.least)) with | none => m | some k => min m k) d := by
  unfold momentC
  congr 1
  funext m l
  split <;> rfl
@[simp] theorem lineL_fit {n : Nat} {b : Bool} {l : Line} : (lineL b l).fit (n + 1) = (PyData.strOk l.seen && PyData.strOk l.viewer) := by simp [lineL]
end VI
set_option Elab.async false
set_option linter.all false
set_option maxRecDepth 100000
set_option autoImplicit false
namespace VI
open PySem L2
theorem sorted_count : ∀ (ys : List Int) (n : Nat) (t : Int), ys.Pairwise (· ≤ ·) → n < ys.length → (ys.getD n 0 ≤ t ↔ n < (ys.filter fun y => decide (y ≤ t)).length)
  | [], n, t, _, h => by simp at h
  | y :: ys, n, t, hp, h => by
    rw [List.pairwise_cons] at hp
    by_cases hy : y ≤ t
    · rw [List.filter_cons_of_pos (by simpa using hy)]
      cases n with
      | zero => simp [hy]
      | succ n =>
        have := sorted_count ys n t hp.2 (by simpa using h)
        simp only [List.getD_cons_succ, List.length_cons]
        omega
    · have hn : (ys.filter fun y => decide (y ≤ t)) = [] := by
        rw [List.filter_eq_nil_iff]
        intro a ha
        have := hp.1 a ha
        simp; omega
      rw [List.filter_cons_of_neg (by simpa using hy), hn]
      cases n with
      | zero => simp; omega
      | succ n =>
        simp only [List.getD_cons_succ, List.length_nil, Nat.not_lt_zero, iff_false]
        have hl : n < ys.length := by simpa using h
        have := hp.1 (ys.getD n 0) (by rw [List.getD_eq_getElem?_getD, List.getElem?_eq_getElem hl]; simp)
        omega
theorem sort_count {xs : List Int} {n : Nat} {t : Int} (h : n < xs.length) : (sortI xs).getD n 0 ≤ t ↔ n < (xs.filter fun y => decide (y ≤ t)).length := by
  rw [sorted_count _ n t (sortI_sorted xs) (by rw [sortI_len]; exact h), ((sortI_perm xs).filter _).length_eq]
def clearBy (T : Str → Int) (s : Str) (t : Int) (l : Line) : Bool := decide (l.viewer = s) && (decide (l.most ≠ none) && decide (T l.seen + l.least ≤ t))
def dimBy (T : Str → Int) (s : Str) (t : Int) (l : Line) : Bool := decide (l.viewer = s) && (decide (l.most = none) && decide (T l.seen + l.least ≤ t))
def enough (N : Net) (T : Str → Int) (s : Str) (t : Int) : Bool := N.lines.any (clearBy T s t) || decide (N.need s ≤ (N.lines.filter (dimBy T s t)).length)
theorem soon_key {N : Net} {T : Str → Int} {s : Str} (hn : 1 ≤ N.need s) :
    N.soonest T s ≤ N.dawn ∧ ∀ t, t < N.dawn → (N.soonest T s ≤ t ↔ enough N T s t = true) := by
  obtain ⟨g1, g2, g3⟩ := minF_spec (fun l : Line => if l.most = none then none else some (T l.seen + l.least)) (N.to s) N.dawn
  rw [← momentC_min] at g1 g2 g3
  have hc : ∀ t, N.lines.any (clearBy T s t) = true ↔ ∃ l ∈ N.to s, l.most ≠ none ∧ T l.seen + l.least ≤ t := fun t => by
    rw [List.any_eq_true]
    constructor
    · rintro ⟨l, hl, h⟩
      simp only [clearBy, Bool.and_eq_true, decide_eq_true_eq] at h
      exact ⟨l, List.mem_filter.mpr ⟨hl, by simp [h.1]⟩, h.2⟩
    · rintro ⟨l, hl, h⟩
      exact ⟨l, (to_mem hl).1, by simp only [clearBy, Bool.and_eq_true, decide_eq_true_eq]; exact ⟨(to_mem hl).2, h⟩⟩
  have hd : ∀ t, ((dims (N.to s) T).filter fun y => decide (y ≤ t)).length = (N.lines.filter (dimBy T s t)).length := fun t => by
    unfold dims Net.to
    rw [List.filter_map, List.length_map, List.filter_filter, List.filter_filter]
    congr 2
    funext l
    simp only [dimBy, Function.comp]
    cases decide (l.viewer = s) <;> cases decide (l.most = none) <;> cases decide (T l.seen + l.least ≤ t) <;> rfl
  have hdl : ∀ t, (N.lines.filter (dimBy T s t)).length ≤ (dims (N.to s) T).length := fun t => by rw [← hd]; exact List.length_filter_le _ _
  have hC : ∀ t, t < N.dawn → (momentC (N.to s) T N.dawn ≤ t ↔ N.lines.any (clearBy T s t) = true) := fun t ht => by
    rw [hc]
    constructor
    · intro h
      rcases g3 with g3 | ⟨l, hl, hk⟩
      · omega
      · by_cases hm : l.most = none
        · rw [if_pos hm] at hk; cases hk
        · rw [if_neg hm] at hk
          exact ⟨l, hl, hm, by have := Option.some.inj hk; omega⟩
    · rintro ⟨l, hl, hm, h⟩
      have := g2 l hl _ (if_neg hm)
      omega
  obtain ⟨m, hm⟩ : ∃ m, momentC (N.to s) T N.dawn = m := ⟨_, rfl⟩
  rw [hm] at hC g1
  obtain ⟨k, hk⟩ : ∃ k : Nat, N.need s = k + 1 := ⟨(N.need s - 1).toNat, by omega⟩
  have key : ∀ t, t < N.dawn → (N.soonest T s ≤ t ↔ enough N T s t = true) := fun t ht => by
    unfold enough
    rw [Bool.or_eq_true, ← hC t ht, decide_eq_true_eq]
    unfold Net.soonest moment
    rw [hm]
    by_cases h : N.need s ≤ (dims (N.to s) T).length
    · rw [if_pos h]
      have hsc := sort_count (xs := dims (N.to s) T) (n := (N.need s).toNat - 1) (t := t) (by omega)
      rw [hd] at hsc
      have e : (N.need s).toNat - 1 = k := by omega
      rw [e] at hsc ⊢
      generalize (sortI (dims (N.to s) T)).getD k 0 = q at *
      generalize (N.lines.filter (dimBy T s t)).length = r at *
      omega
    · rw [if_neg h]
      have := hdl t
      omega
  have hle : N.soonest T s ≤ N.dawn := by
    unfold Net.soonest moment
    rw [hm]
    split
    · exact Int.le_trans (Int.min_le_left _ _) g1
    · exact g1
  exact ⟨hle, key⟩
structure CInv (names : List Str) (k : Nat) (ls : List Line) : Prop where
  len : ls.length ≤ k
  ok : ∀ l ∈ ls, l.Ok names
  nd : (ls.map Line.pair).Nodup
  ix : ∀ l ∈ ls, ∃ j < k, names[j / names.length]? = some l.seen ∧ names[j % names.length]? = some l.viewer
theorem CInv.none {names : List Str} {k : Nat} {ls : List Line} (i : CInv names k ls) : CInv names (k + 1) ls :=
  ⟨by have := i.len; omega, i.ok, i.nd, fun l hl => by obtain ⟨j, h, q⟩ := i.ix l hl; exact ⟨j, by omega, q⟩⟩
theorem CInv.one {names : List Str} {k : Nat} {ls : List Line} (i : CInv names k ls) (nd : names.Nodup) {l : Line} (h : l.Ok names) (h1 : names[k / names.length]? = some l.seen) (h2 : names[k % names.length]? = some l.viewer) : CInv names (k + 1) (ls ++ [l]) := by
  refine ⟨by have := i.len; simp; omega, fun m hm => ?_, pairs_app i.nd fun m hm e => ?_, fun m hm => ?_⟩
  · rcases List.mem_append.mp hm with hm | hm
    · exact i.ok m hm
    · have : m = l := by simpa using hm
      subst this; exact h
  · obtain ⟨j, hj, q1, q2⟩ := i.ix m hm
    obtain ⟨e1, e2⟩ := pair_inj.mp e
    rw [e1] at q1
    rw [e2] at q2
    have a1 := L2.nodup_ix nd q1 h1
    have a2 := L2.nodup_ix nd q2 h2
    have b1 := Nat.div_add_mod j names.length
    have b2 := Nat.div_add_mod k names.length
    rw [a1, a2] at b1
    omega
  · rcases List.mem_append.mp hm with hm | hm
    · obtain ⟨j, hj, q⟩ := i.ix m hm; exact ⟨j, by omega, q⟩
    · have : m = l := by simpa using hm
      subst this; exact ⟨k, by omega, h1, h2⟩
theorem due_key {N : Net} {T : Str → Int} {s : Str} {t : Int} (ht : t ≤ N.dawn) : N.due T s < t ↔ ∃ l ∈ N.lines, l.viewer = s ∧ ∃ k, l.most = some k ∧ T l.seen + k < t := by
  obtain ⟨h1, h2, h3⟩ := minF_spec (fun l : Line => l.most.map (T l.seen + ·)) (N.to s) N.dawn
  generalize hq : List.foldl _ N.dawn (N.to s) = q at h1 h2 h3
  have e : N.due T s = q := by
    rw [← hq]
    unfold Net.due dueF
    congr 1
    funext m l
    cases l.most <;> rfl
  rw [← e] at h1 h2 h3
  constructor
  · intro h
    rcases h3 with h3 | ⟨l, hl, hk⟩
    · omega
    · cases z : l.most with
      | none => simp [z] at hk
      | some k =>
        simp [z] at hk
        exact ⟨l, (to_mem hl).1, (to_mem hl).2, k, z, by omega⟩
  · rintro ⟨l, hl, hv, k, hk, h⟩
    have := h2 l (List.mem_filter.mpr ⟨hl, by simp [hv]⟩) (T l.seen + k) (by rw [hk]; rfl)
    omega
def Net.fault (N : Net) (T : Str → Int) (s : Str) : Option Str := if N.look s = false ∧ T s < N.soonest T s then some "err" else if N.due T s < T s then some "sleep" else none
theorem lstF_net {N : Net} {b : Bool} (h : N.names.length ≤ 8) : lstF 0 "names" [netD b N] = some (.lst true (N.names.map D.str)) := by
  have e := fld_names (b := b) (N := N)
  have hl : N.names.length ≤ 100000 := by omega
  have : fldL 0 "names" (netD b N) = some (N.names.map D.str) := by
    unfold netD net6 at e ⊢
    unfold fldD at e
    simp only [fldL, if_true] at e ⊢
    rw [e]; rfl
  simp only [lstF, this, Option.bind_some]
  simp [hl]
end VI
set_option Elab.async false
set_option linter.all false
set_option maxRecDepth 100000
set_option autoImplicit false
namespace VI
open PySem L2
variable {b c : Bool} {N : Net} {s : Str}
theorem contains_ap : ap f_m_Network_ddcontains [netD b N, .str s] = some (.bl (decide (s ∈ N.names))) :=
  ap_run rfl (by by_cases h : s ∈ N.names <;> simp [env0, b_m_Network_ddcontains, h]) (by simp)
@[simp] theorem inOwn_net {g : List D → Option (D × Ev)} {neg : Bool} {x : D} : inOwnD 0 g neg x (netD b N) = (ap g [netD b N, x]).bind (blD neg) := (rfl)
@[simp] theorem blD_bl {neg a : Bool} : blD neg (.bl a) = some (.bl (if neg then !a else a)) := (rfl)
@[simp] theorem mOwnIt_run {k : Nat} {fld : Str} {m : Ev → Option D} {A : Ev} : mOwnIt k fld m A = (m A).bind fun d => ownItems k fld d.frz := (rfl)
@[simp] theorem ownItems_net : ownItems 0 "names" (netD false N) = some (N.names.map D.str) := by
  have e := fld_names (b := false) (N := N)
  unfold netD net6 at e ⊢
  unfold fldD at e
  simp only [ownItems, if_true] at e ⊢
  rw [e]; rfl
def fltD (p : Str × Str) : D := .tup [.str p.1, .str p.2]
@[simp] theorem fltD_frz {p : Str × Str} : (fltD p).frz = fltD p := rfl
@[simp] theorem fltD_plain {p : Str × Str} : (fltD p).plain = true := rfl
@[simp] theorem fltD_clean {p : Str × Str} : (fltD p).clean = true := rfl
def kindOf (fs : List (Str × Str)) (s : Str) : Str := ((fs.find? fun p => decide (p.1 = s)).map (·.2)).getD ""
end VI
set_option Elab.async false
set_option linter.all false
set_option maxRecDepth 100000
set_option autoImplicit false
namespace VI
open PySem L2
def setS (A : Ev) : List (Nat × Option D) → Ev
  | [] => A
  | (i, d) :: r => setS (A.set i d) r
@[simp] theorem setS_nil {A : Ev} : setS A [] = A := (rfl)
@[simp] theorem setS_cons {A : Ev} {i : Nat} {d : Option D} {r : List (Nat × Option D)} : setS A ((i, d) :: r) = setS (A.set i d) r := (rfl)
section
variable {α β : Type} {g : D → Ev → Option Ev} {mb : SM} {enc : α → D} {xs : List α} {A : Ev} {o : Option SOut}
theorem for_detS (hF : forB g mb (xs.map enc) A = o) (sl : Nat → List (Nat × Option D)) (h0 : setS A (sl 0) = A) (h : ∀ i x, xs[i]? = some x → Goes ((g (enc x) (setS A (sl i))).bind mb) (setS A (sl (i + 1)))) : o = some (.nx (setS A (sl xs.length))) := by
  rw [← hF]
  conv => lhs; rw [← h0]
  exact for_det enc (fun i => setS A (sl i)) xs h
end
end VI
set_option Elab.async false
set_option linter.all false
set_option maxRecDepth 100000
set_option autoImplicit false
namespace VI
open PySem L2
section
variable {b c : Bool} {ls : List Line} {F : Line → Int} {N : Net} {T : Str → Int} {ks : List Str}
end
end VI
set_option Elab.async false
set_option linter.all false
set_option maxRecDepth 100000
set_option autoImplicit false
namespace VI
open PySem L2
def b_m_Log_window : SM :=
    (sSeq (sExp (mPos f_m_Network_need_keeper (mRecv 0 "need_keeper" (mFld 1 "network" (mV 0)) (mCons (mV 1) mNil))))
    (sRet (mP (mOp subscr (mFld 1 "windows" (mV 0)) (mV 1)))))
def f_m_Log_window : List D → Option (D × Ev) := runF 2 2 b_m_Log_window
def c1_d_raise_floors : Ev → D → Option (Option (Key × D)) :=
    dcItem (tgN 6) mYes (mV 6) (mP (mOp subscr (mPos f_m_Log_window (mRecv 1 "window" (mV 0) (mCons (mV 6) mNil))) (mC (D.int 0))))
def l2_d_raise_floors : SM :=
    (sKill [8] (sKill [9, 7] (sIf (mT (mOp notND (mV 9) (mC D.non)))
    (sPut (pN 3) (mV 7) (mCall maxD (mCons (mOp subscr (mV 3) (mV 7)) (mCons (mOp subD (mOp subscr (mV 3) (mV 5)) (mV 9)) mNil))))
    sNx)))
def l3_d_raise_floors : SM :=
    (sKill [5] (sIf (mT (mOp neD (mGet1 (mV 1) (mV 5)) (mC (D.str "sleep"))))
    (sFor (mItems' (mPos f_m_Network_lines_to (mRecv 0 "lines_to" (mV 2) (mCons (mV 5) mNil)))) (tgTup 3 (tgCons (tgN 7) (tgCons (tgN 8) (tgCons (tgN 9) tgNil)))) l2_d_raise_floors)
    sNx))
def l4_d_raise_floors : SM :=
    (sKill [4] (sFrz 2 (sFor (mOwnIt 0 "names" (mP (mV 2))) (tgN 5) l3_d_raise_floors)))
def b_d_raise_floors : SM :=
    (sSeq (sAsg 2 (mP (mFld 1 "network" (mV 0))))
    (sSeq (sFrz 2 (sKill [0] (sAsg 3 (mDcN (mOwnIt 0 "names" (mP (mV 2))) c1_d_raise_floors [6]))))
    (sSeq (sKill [1, 2] (sFor (mRng1 (mCons (mCall (lenF 0 "names") (mCons (mV 2) mNil)) mNil)) (tgN 4) l4_d_raise_floors))
    (sRetV 3))))
def f_d_raise_floors : List D → Option (D × Ev) := runF 2 10 b_d_raise_floors
def b_d_kinds_of : SM :=
    (sRet (mCall dictD (mCons (mPos f_d_check_faults (mCons (mFld 1 "network" (mV 0)) (mCons (mV 1) mNil))) mNil)))
def f_d_kinds_of : List D → Option (D × Ev) := runF 2 2 b_d_kinds_of
def b_d_is_free : SM :=
    (sRet (mOrV (mPos f_m_Network_is_lookout (mRecv 0 "is_lookout" (mFld 1 "network" (mV 0)) (mCons (mV 2) mNil))) (mOp eqD (mGet1 (mV 1) (mV 2)) (mC (D.str "err")))))
def f_d_is_free : List D → Option (D × Ev) := runF 3 3 b_d_is_free
def l1_d_spread : SM :=
    (sKill [5] (sPut (pN 4) (mV 5) (mP (mIf (mTr (mPos f_d_is_free (mCons (mV 0) (mCons (mV 1) (mCons (mV 5) mNil))))) (mOp subscr (mV 2) (mV 5)) (mFld 0 "dawn" (mV 3))))))
def l2_d_spread : SM :=
    (sKill [7, 5] (sIf (mNot (mTr (mPos f_d_is_free (mCons (mV 0) (mCons (mV 1) (mCons (mV 5) mNil))))))
    (sSeq (sAsg 7 (mPos f_d_moment_along (mCons (mPos f_m_Network_lines_to (mRecv 0 "lines_to" (mV 3) (mCons (mV 5) mNil))) (mCons (mV 4) (mCons (mPos f_m_Network_need_of (mRecv 0 "need_of" (mV 3) (mCons (mV 5) mNil))) (mCons (mFld 0 "dawn" (mV 3)) mNil))))))
    (sPut (pN 4) (mV 5) (mCall maxD (mCons (mOp subscr (mV 2) (mV 5)) (mCons (mV 7) mNil)))))
    sNx))
def l3_d_spread : SM :=
    (sKill [6] (sFrz 3 (sFor (mOwnIt 0 "names" (mP (mV 3))) (tgN 5) l2_d_spread)))
def b_d_spread : SM :=
    (sSeq (sAsg 3 (mP (mFld 1 "network" (mV 0))))
    (sSeq (sAsg 4 (mC (D.dct true [] [])))
    (sSeq (sFrz 3 (sFor (mOwnIt 0 "names" (mP (mV 3))) (tgN 5) l1_d_spread))
    (sSeq (sKill [2, 1, 0, 3] (sFor (mRng1 (mCons (mCall (lenF 0 "names") (mCons (mV 3) mNil)) mNil)) (tgN 6) l3_d_spread))
    (sRetV 4)))))
def f_d_spread : List D → Option (D × Ev) := runF 3 8 b_d_spread
def c1_d_raise_to_first : Ev → D → Option (Option (Key × D)) :=
    dcItem (tgN 2) mYes (mV 2) (mCall maxD (mCons (mOp subscr (mV 0) (mV 2)) (mCons (mOp subscr (mV 0) (mV 1)) mNil)))
def b_d_raise_to_first : SM :=
    (sSeq (sIf (mT (mOp isND (mV 1) (mC D.non)))
    (sRet (mP (mV 0)))
    sNx)
    (sRet (mDcN (fun A => ((mV 0) A).bind keysOf) c1_d_raise_to_first [2])))
def f_d_raise_to_first : List D → Option (D × Ev) := runF 2 3 b_d_raise_to_first
def b_d_earliest_table : SM :=
    (sSeq (sIf (mT (mOp notND (mV 2) (mC D.non)))
    (sExp (mPos f_m_Network_need_keeper (mRecv 0 "need_keeper" (mFld 1 "network" (mV 0)) (mCons (mV 2) mNil))))
    sNx)
    (sSeq (sKill [1] (sAsg 3 (mPos f_d_kinds_of (mCons (mV 0) (mCons (mV 1) mNil)))))
    (sSeq (sAsg 4 (mPos f_d_raise_floors (mCons (mV 0) (mCons (mV 3) mNil))))
    (sSeq (sIf (mAnd (mT (mOp notND (mV 2) (mC D.non))) (mNot (mTr (mPos f_d_is_free (mCons (mV 0) (mCons (mV 3) (mCons (mV 2) mNil)))))))
    (sRet (mC D.non))
    sNx)
    (sSeq (sIf (mAnd (mT (mOp notND (mV 2) (mC D.non))) (mT (mOp eqD (mOp subscr (mV 4) (mV 2)) (mFld 0 "dawn" (mFld 1 "network" (mV 0))))))
    (sRet (mC D.non))
    sNx)
    (sFrz 4 (sRet (mPos f_d_spread (mCons (mV 0) (mCons (mV 3) (mCons (mPos f_d_raise_to_first (mCons (mV 4) (mCons (mV 2) mNil))) mNil)))))))))))
def f_d_earliest_table : List D → Option (D × Ev) := runF 3 5 b_d_earliest_table
def l1_d_law_named : SM :=
    (sSeq (sAsg 6 (mTup (mCons (mC (D.str "")) (mCons (mC (D.str "")) mNil))))
    (sSeq (sIf (mT (mOp eqD (mOp subscr (mV 5) (mC (D.int 0))) (mC (D.str "line"))))
    (sAsg 6 (mTup (mCons (mP (mOp subscr (mV 5) (mC (D.int 2)))) (mCons (mC (D.str "sleep")) mNil))))
    sNx)
    (sSeq (sKill [5] (sIf (mOr (mT (mOp eqD (mOp subscr (mV 5) (mC (D.int 0))) (mC (D.str "spread")))) (mT (mOp eqD (mOp subscr (mV 5) (mC (D.int 0))) (mC (D.str "ring")))))
    (sAsg 6 (mTup (mCons (mP (mOp subscr (mV 5) (mC (D.int 1)))) (mCons (mC (D.str "err")) mNil))))
    sNx))
    (sKill [6] (sIf (mAnd (mT (mOp eqD (mV 6) (mTup (mCons (mP (mV 3)) (mCons (mP (mV 4)) mNil))))) (mT (mOp ninD (mV 6) (mV 2))))
    (sFrz 6 (sEff (bMeth1 (pN 2) (mP (mV 6)) opAppend)))
    sNx)))))
def l2_d_law_named : SM :=
    (sKill [4] (sFor (mItems' (mP (mV 1))) (tgN 5) l1_d_law_named))
def l3_d_law_named : SM :=
    (sKill [3] (sFor (mItems' (mLst (mCons (mC (D.str "err")) (mCons (mC (D.str "sleep")) mNil)))) (tgN 4) l2_d_law_named))
def b_d_law_named : SM :=
    (sSeq (sAsg 2 (mLst mNil))
    (sSeq (sKill [0, 1] (sFor (mItems' (mP (mOp subscr (mV 0) (mC (D.int 1))))) (tgN 3) l3_d_law_named))
    (sRetV 2)))
def f_d_law_named : List D → Option (D × Ev) := runF 2 7 b_d_law_named
end VI
set_option Elab.async false
set_option linter.all false
set_option maxRecDepth 100000
set_option autoImplicit false
namespace VI
open PySem L2
structure LogS where
  net : Net
  lo : Str → Int
  hi : Str → Int
  tr : Str → Bool
abbrev logF : List Str := ["network", "windows", "trusted"]
def log3 (b : Bool) (n w t : D) : D := .obj b 1 logF [n, w, t]
def winD (b : Bool) (ks : List Str) (lo hi : Str → Int) : D := .dct b (ks.map kS) (ks.map fun s => .tup [.int (lo s), .int (hi s)])
def blsT (b : Bool) (ks : List Str) (tr : Str → Bool) : D := .dct b (ks.map kS) (ks.map fun s => .bl (tr s))
def logD (b : Bool) (L : LogS) : D := log3 b (netD b L.net) (winD b L.net.names L.lo L.hi) (blsT b L.net.names L.tr)
section
variable {b c : Bool} {ks : List Str} {lo hi : Str → Int} {tr : Str → Bool} {s : Str} {L : LogS} {n w t e : D} {i : Nat} {π : List Nat}
@[simp] theorem win_frz : (winD b ks lo hi).frz = winD false ks lo hi := by simp [winD]
@[simp] theorem win_plain : (winD b ks lo hi).plain = !b := rfl
@[simp] theorem win_clean : (winD b ks lo hi).clean = b := by simp [winD]
@[simp] theorem blsT_frz : (blsT b ks tr).frz = blsT false ks tr := by simp [blsT]
@[simp] theorem blsT_plain : (blsT b ks tr).plain = !b := rfl
@[simp] theorem blsT_clean : (blsT b ks tr).clean = b := by simp [blsT]
@[simp] theorem win_keys : keysOf (winD false ks lo hi) = some (ks.map D.str) := by simp [winD]; exact fun _ _ => rfl
@[simp] theorem logD_frz : (logD b L).frz = logD false L := by simp [logD, log3]
@[simp] theorem logD_plain : (logD b L).plain = !b := rfl
@[simp] theorem logD_clean : (logD b L).clean = b := by cases b <;> simp [logD, log3]
theorem logD_obj {m : Str} (h : m ∉ logF) : isObj 1 m (logD b L) = true := by
  unfold logD log3 isObj
  simp only [decide_true, Bool.true_and, decide_eq_true_eq]; exact h
@[simp] theorem ol_window : isObj 1 "window" (logD b L) = true := logD_obj (by decide +kernel)
@[simp] theorem ol_note : isObj 1 "note" (logD b L) = true := logD_obj (by decide +kernel)
@[simp] theorem ol_note_all : isObj 1 "note_all" (logD b L) = true := logD_obj (by decide +kernel)
@[simp] theorem ol_forget : isObj 1 "forget" (logD b L) = true := logD_obj (by decide +kernel)
@[simp] theorem ol_trust : isObj 1 "trust" (logD b L) = true := logD_obj (by decide +kernel)
@[simp] theorem ol_is_trusted : isObj 1 "is_trusted" (logD b L) = true := logD_obj (by decide +kernel)
@[simp] theorem ol_copy : isObj 1 "copy" (logD b L) = true := logD_obj (by decide +kernel)
theorem idx_network : List.idxOf? ("network" : Str) logF = some 0 := by decide +kernel
theorem idx_windows : List.idxOf? ("windows" : Str) logF = some 1 := by decide +kernel
theorem idx_trusted : List.idxOf? ("trusted" : Str) logF = some 2 := by decide +kernel
@[simp] theorem f3_network : fldD 1 "network" (log3 b n w t) = some n := fld_at 0 idx_network rfl
@[simp] theorem f3_windows : fldD 1 "windows" (log3 b n w t) = some w := fld_at 1 idx_windows rfl
@[simp] theorem f3_trusted : fldD 1 "trusted" (log3 b n w t) = some t := fld_at 2 idx_trusted rfl
@[simp] theorem s3_0 : setP (log3 true n w t) (0 :: π) e = log3 true (setP n π e) w t := (rfl)
@[simp] theorem s3_1 : setP (log3 true n w t) (1 :: π) e = log3 true n (setP w π e) t := (rfl)
@[simp] theorem s3_2 : setP (log3 true n w t) (2 :: π) e = log3 true n w (setP t π e) := (rfl)
@[simp] theorem lf_network : fldD 1 "network" (logD b L) = some (netD b L.net) := f3_network
@[simp] theorem lf_windows : fldD 1 "windows" (logD b L) = some (winD b L.net.names L.lo L.hi) := f3_windows
@[simp] theorem lf_trusted : fldD 1 "trusted" (logD b L) = some (blsT b L.net.names L.tr) := f3_trusted
end
def put {α : Type} (f : Str → α) (s : Str) (v : α) : Str → α := fun x => if x = s then v else f x
@[simp] theorem put_same {α : Type} {f : Str → α} {s : Str} {v : α} : put f s v s = v := by simp [put]
def LogS.new (N : Net) : LogS := ⟨N, fun _ => 0, fun _ => N.dawn, fun _ => false⟩
structure LogS.Ok (L : LogS) : Prop where
  net : L.net.Ok
  l0 : ∀ s ∈ L.net.names, 0 ≤ L.lo s
  lh : ∀ s ∈ L.net.names, L.lo s ≤ L.hi s
  hd : ∀ s ∈ L.net.names, L.hi s ≤ L.net.dawn
section
variable {b : Bool} {L : LogS} {N : Net} {s : Str}
end
end VI
set_option Elab.async false
set_option linter.all false
set_option maxRecDepth 100000
set_option autoImplicit false
namespace VI
open PySem L2
def Low (s : Str) : Prop := ∀ c ∈ s.cps.toList, 97 ≤ c ∧ c ≤ 122
theorem Low.app {a b : Str} (h : Low a) (k : Low b) : Low (a ++ b) := fun c hc => by
  rw [str_app_cps] at hc
  exact (List.mem_append.mp hc).elim (h c) (k c)
theorem Low.one {c : Nat} (h : 97 ≤ c ∧ c ≤ 122) : Low ⟨#[c]⟩ := fun d hd => by simp at hd; subst hd; exact h
theorem NameOk.of {s : Str} (h : Low s) (h1 : 1 ≤ s.length) (h8 : s.length ≤ 8) : NameOk s := ⟨h1, h8, h⟩
end VI
namespace VI
open PySem L2
theorem lenF_net {N : Net} {b : Bool} (h : N.names.length ≤ 8) : lenF 0 "names" [netD b N] = some (.int N.names.length) := by
  have e := fld_names (b := b) (N := N)
  have hl : N.names.length ≤ 100000 := by omega
  have : fldL 0 "names" (netD b N) = some (N.names.map D.str) := by
    unfold netD net6 at e ⊢
    unfold fldD at e
    simp only [fldL, if_true] at e ⊢
    rw [e]; rfl
  simp only [lenF, this, Option.bind_some]
  simp [hl]
def ixS (names : List Str) (s : Str) : Nat := (names.findIdx? fun x => decide (x = s)).getD 0
end VI
namespace VI
open PySem L2
end VI
namespace VI
open PySem L2
@[simp] theorem minD_pair {b : Bool} {i j : Int} : minD [.lst b [.int i, .int j]] = some (.int (min i j)) := by
  have := minD_lst (b := b) (ns := [i, j])
  simpa [minL] using this
@[simp] theorem maxD_pair {b : Bool} {i j : Int} : maxD [.lst b [.int i, .int j]] = some (.int (max i j)) := by
  have := maxD_lst (b := b) (ns := [i, j])
  simpa [maxL] using this
end VI
set_option Elab.async false
set_option linter.all false
set_option maxRecDepth 100000
set_option autoImplicit false
namespace VI
def Agree (ks : List PySem.Str) (T U : PySem.Str → Int) (t : Int) : Prop := ∀ r ∈ ks, ∀ u, u < t → (T r ≤ u ↔ U r ≤ u)
structure Causal (ks : List PySem.Str) (lo hi : Int) (f : PySem.Str → (PySem.Str → Int) → Int) : Prop where
  mono : ∀ s ∈ ks, ∀ T U : PySem.Str → Int, (∀ r ∈ ks, T r ≤ U r) → f s T ≤ f s U
  cause : ∀ s ∈ ks, ∀ (T U : PySem.Str → Int) (t : Int), Agree ks T U t → (f s T ≤ t ↔ f s U ≤ t)
  low : ∀ s ∈ ks, ∀ T : PySem.Str → Int, (∀ r ∈ ks, lo ≤ T r) → lo ≤ f s T
  high : ∀ s ∈ ks, ∀ T : PySem.Str → Int, f s T ≤ hi
section
variable {ks : List PySem.Str} {lo hi : Int} {f : PySem.Str → (PySem.Str → Int) → Int} {T U : PySem.Str → Int}
theorem Agree.refl {t : Int} : Agree ks T T t := fun _ _ _ _ => Iff.rfl
theorem Agree.symm {t : Int} (h : Agree ks T U t) : Agree ks U T t := fun r hr u hu => (h r hr u hu).symm
theorem Agree.eq {t : Int} (h : Agree ks T U t) (h1 : ∀ r ∈ ks, T r < t) (h2 : ∀ r ∈ ks, U r < t) : ∀ r ∈ ks, T r = U r := fun r hr => by
  have a := (h r hr (T r) (h1 r hr)).mp (Int.le_refl _)
  have b := (h r hr (U r) (h2 r hr)).mpr (Int.le_refl _)
  omega
def Fix (ks : List PySem.Str) (f : PySem.Str → (PySem.Str → Int) → Int) (T : PySem.Str → Int) : Prop := ∀ s ∈ ks, T s = f s T
def below (ks : List PySem.Str) (T : PySem.Str → Int) (t : Int) : Nat := (ks.filter fun r => decide (T r < t)).length
theorem below_len {r : PySem.Str} (hr : r ∈ ks) : below ks T (T r) < ks.length := by
  unfold below
  induction ks with
  | nil => cases hr
  | cons q l ih =>
    by_cases h1 : T q < T r
    · have hr' : r ∈ l := (List.mem_cons.mp hr).resolve_left (fun e => by rw [e] at h1; omega)
      rw [List.filter_cons_of_pos (by simpa using h1)]
      have := ih hr'
      rw [List.length_cons, List.length_cons]; omega
    · rw [List.filter_cons_of_neg (by simpa using h1)]
      have := List.length_filter_le (fun q => decide (T q < T r)) l
      rw [List.length_cons]; omega
def Settled (ks : List PySem.Str) (S T : PySem.Str → Int) (k : Nat) : Prop := (∀ r ∈ ks, S r ≤ T r) ∧ ∀ r ∈ ks, below ks S (S r) < k → T r = S r
theorem Settled.all {S : PySem.Str → Int} (h : Settled ks S T ks.length) : ∀ r ∈ ks, T r = S r := fun r hr => h.2 r hr (below_len hr)
theorem Settled.mono {S : PySem.Str → Int} {k j : Nat} (h : Settled ks S T k) (hj : j ≤ k) : Settled ks S T j := ⟨h.1, fun r hr z => h.2 r hr (by omega)⟩
end
end VI
namespace VI
section
variable {ks : List PySem.Str} {lo hi : Int} {f : PySem.Str → (PySem.Str → Int) → Int} {S T : PySem.Str → Int} {k : Nat} {s : PySem.Str}
end
def momG {α : Type} (cl dm : α → Option Int) (need d : Int) (ls : List α) : Int :=
  let m := ls.foldl (fun m l => match cl l with | none => m | some k => min m k) d
  let ds := ls.filterMap dm
  if need ≤ ds.length then min m ((sortI ds).getD (need.toNat - 1) 0) else m
def cntLe {α : Type} (dm : α → Option Int) (ls : List α) (t : Int) : Nat := (ls.filter fun l => match dm l with | some k => decide (k ≤ t) | none => false).length
theorem cnt_le {α : Type} {dm : α → Option Int} {ls : List α} {t : Int} : ((ls.filterMap dm).filter fun y => decide (y ≤ t)).length = cntLe dm ls t := by
  unfold cntLe
  induction ls with
  | nil => rfl
  | cons l ls ih =>
    cases h : dm l with
    | none => rw [List.filterMap_cons_none h, List.filter_cons_of_neg (by simp [h])]; exact ih
    | some k =>
      rw [List.filterMap_cons_some h]
      by_cases hk : k ≤ t
      · rw [List.filter_cons_of_pos (by simpa using hk), List.filter_cons_of_pos (by simpa [h] using hk), List.length_cons, List.length_cons, ih]
      · rw [List.filter_cons_of_neg (by simpa using hk), List.filter_cons_of_neg (by simpa [h] using hk), ih]
theorem momG_le {α : Type} {cl dm : α → Option Int} {need d : Int} {ls : List α} (hn : 1 ≤ need) {t : Int} : momG cl dm need d ls ≤ t ↔ d ≤ t ∨ (∃ l ∈ ls, ∃ k, cl l = some k ∧ k ≤ t) ∨ need ≤ (cntLe dm ls t : Int) := by
  obtain ⟨h1, h2, h3⟩ := minF_spec cl ls d
  unfold momG
  generalize hm : ls.foldl (fun m l => match cl l with | none => m | some k => min m k) d = m at *
  have hc : m ≤ t ↔ d ≤ t ∨ ∃ l ∈ ls, ∃ k, cl l = some k ∧ k ≤ t := by
    constructor
    · intro h
      rcases h3 with e | ⟨l, hl, e⟩
      · exact .inl (e ▸ h)
      · exact .inr ⟨l, hl, m, e, h⟩
    · rintro (h | ⟨l, hl, k, e, h⟩)
      · exact Int.le_trans h1 h
      · exact Int.le_trans (h2 l hl k e) h
  have hcl : (cntLe dm ls t : Int) ≤ (ls.filterMap dm).length := by
    rw [← cnt_le]
    have := List.length_filter_le (fun y => decide (y ≤ t)) (ls.filterMap dm)
    omega
  simp only
  split
  · rename_i hnd
    have hs := sort_count (xs := ls.filterMap dm) (n := need.toNat - 1) (t := t) (by omega)
    rw [cnt_le] at hs
    generalize (sortI (ls.filterMap dm)).getD (need.toNat - 1) 0 = y at hs
    constructor
    · intro h
      by_cases hmt : m ≤ t
      · exact (hc.mp hmt).imp id .inl
      · have : y ≤ t := by omega
        exact .inr (.inr (by have := hs.mp this; omega))
    · rintro (h | h | h)
      · have := hc.mpr (.inl h); omega
      · have := hc.mpr (.inr h); omega
      · have := hs.mpr (by omega); omega
  · rename_i hnd
    constructor
    · intro h; exact (hc.mp h).imp id .inl
    · rintro (h | h | h)
      · exact hc.mpr (.inl h)
      · exact hc.mpr (.inr h)
      · omega
theorem momG_hi {α : Type} {cl dm : α → Option Int} {need d : Int} {ls : List α} (hn : 1 ≤ need) : momG cl dm need d ls ≤ d := (momG_le hn).mpr (.inl (Int.le_refl _))
theorem cnt_mono {α : Type} {dm dm' : α → Option Int} {ls : List α} {t t' : Int} (h : ∀ l ∈ ls, ∀ k, dm l = some k → k ≤ t → ∃ k', dm' l = some k' ∧ k' ≤ t') : cntLe dm ls t ≤ cntLe dm' ls t' := by
  unfold cntLe
  induction ls with
  | nil => exact Nat.le_refl _
  | cons l ls ih =>
    have ih := ih fun m hm => h m (by simp [hm])
    cases e : dm l with
    | none =>
      rw [List.filter_cons_of_neg (by simp [e])]
      exact Nat.le_trans ih ((List.sublist_cons_self l ls).filter _).length_le
    | some k =>
      by_cases hk : k ≤ t
      · obtain ⟨k', e', hk'⟩ := h l (by simp) k e hk
        rw [List.filter_cons_of_pos (by simpa [e] using hk), List.filter_cons_of_pos (by simpa [e'] using hk'), List.length_cons, List.length_cons]
        omega
      · rw [List.filter_cons_of_neg (by simpa [e] using hk)]
        exact Nat.le_trans ih ((List.sublist_cons_self l ls).filter _).length_le
theorem momG_mono {α : Type} {cl dm cl' dm' : α → Option Int} {need d d' : Int} {ls : List α} (hn : 1 ≤ need) (hd : d ≤ d') (h1 : ∀ l ∈ ls, ∀ k, cl' l = some k → ∃ k', cl l = some k' ∧ k' ≤ k) (h2 : ∀ l ∈ ls, ∀ k, dm' l = some k → ∃ k', dm l = some k' ∧ k' ≤ k) : momG cl dm need d ls ≤ momG cl' dm' need d' ls := by
  rw [momG_le hn]
  have h := (momG_le hn (t := momG cl' dm' need d' ls) (cl := cl') (dm := dm') (d := d') (ls := ls)).mp (Int.le_refl _)
  generalize momG cl' dm' need d' ls = t at h
  rcases h with h | ⟨l, hl, k, e, h⟩ | h
  · exact .inl (by omega)
  · obtain ⟨k', e', hk⟩ := h1 l hl k e
    exact .inr (.inl ⟨l, hl, k', e', by omega⟩)
  · refine .inr (.inr ?_)
    have := cnt_mono (dm := dm') (dm' := dm) (ls := ls) (t := t) (t' := t) fun l hl k e hk => by
      obtain ⟨k', e', hk'⟩ := h2 l hl k e
      exact ⟨k', e', by omega⟩
    omega
end VI
set_option Elab.async false
set_option linter.all false
set_option maxRecDepth 100000
set_option autoImplicit false
namespace VI
open PySem L2
section
variable {a b c d : Bool} {ls : List Line} {W : Line → Option Int} {N : Net} {T : Str → Int} {ks : List Str} {s : Str}
def cW (W : Line → Option Int) (T : Str → Int) (l : Line) : Option Int := if l.most = none then none else (W l).map (T l.seen + ·)
def dW (W : Line → Option Int) (T : Str → Int) (l : Line) : Option Int := if l.most = none then (W l).map (T l.seen + ·) else none
def Net.seenW (N : Net) (W : Line → Option Int) (T : Str → Int) (s : Str) : Int := momG (cW W T) (dW W T) (N.need s) N.dawn (N.to s)
end
end VI
namespace VI
open PySem L2
section
variable {a b c d : Bool} {ls : List Line} {W : Line → Option Int} {N : Net} {T : Str → Int} {ks os : List Str} {O : Str → Int} {s : Str}
def repF (N : Net) (W : Line → Option Int) (os : List Str) (O : Str → Int) (s : Str) (T : Str → Int) : Int := if s ∈ os then O s else N.seenW W T s
structure Lates (N : Net) (W : Line → Option Int) : Prop where
  clear : ∀ l ∈ N.lines, ∀ m, l.most = some m → ∃ w, W l = some w ∧ l.least ≤ w ∧ w ≤ m
  dim : ∀ l ∈ N.lines, l.most = none → ∀ w, W l = some w → l.least ≤ w ∧ w ≤ 9999
theorem Lates.pos (h : Lates N W) (ok : N.Ok) {l : Line} (hl : l ∈ N.lines) {w : Int} (hw : W l = some w) : 1 ≤ w := by
  have := (ok.lok l hl).l1
  cases hmo : l.most with
  | none => have := h.dim l hl hmo w hw; omega
  | some m =>
    obtain ⟨w', e, h1, _⟩ := h.clear l hl m hmo
    rw [hw] at e; cases e; omega
theorem repF_causal (ok : N.Ok) (h : Lates N W) (hO : ∀ s ∈ os, 0 ≤ O s ∧ O s ≤ N.dawn) : Causal N.names 0 N.dawn (repF N W os O) where
  mono := fun s hs T U hTU => by
    unfold repF
    split
    · exact Int.le_refl _
    · refine momG_mono (ok.n1 s hs).1 (Int.le_refl _) (fun l hl k e => ?_) (fun l hl k e => ?_)
      · have m1 := (ok.lok l (to_mem hl).1).s
        unfold cW at e ⊢
        split at e
        · cases e
        · rename_i hmo
          rw [if_neg hmo]
          cases hw : W l with
          | none => rw [hw] at e; cases e
          | some w =>
            simp only [hw, Option.map_some, Option.some.injEq] at e
            exact ⟨T l.seen + w, rfl, by have := hTU _ m1; omega⟩
      · have m1 := (ok.lok l (to_mem hl).1).s
        unfold dW at e ⊢
        split at e
        · rename_i hmo
          rw [if_pos hmo]
          cases hw : W l with
          | none => rw [hw] at e; cases e
          | some w =>
            simp only [hw, Option.map_some, Option.some.injEq] at e
            exact ⟨T l.seen + w, rfl, by have := hTU _ m1; omega⟩
        · cases e
  cause := fun s hs T U t hag => by
    unfold repF
    split
    · exact Iff.rfl
    · have key : ∀ T U : Str → Int, Agree N.names T U t → N.seenW W T s ≤ t → N.seenW W U s ≤ t := fun T U hag => by
        unfold Net.seenW
        rw [momG_le (ok.n1 s hs).1, momG_le (ok.n1 s hs).1]
        rintro (h1 | ⟨l, hl, k, e, h1⟩ | h1)
        · exact .inl h1
        · have m1 := to_mem hl
          refine .inr (.inl ⟨l, hl, ?_⟩)
          unfold cW at e ⊢
          split at e
          · cases e
          · rename_i hmo
            rw [if_neg hmo]
            cases hw : W l with
            | none => rw [hw] at e; cases e
            | some w =>
              simp only [hw, Option.map_some, Option.some.injEq] at e
              have hp := h.pos ok m1.1 hw
              have := (hag _ (ok.lok l m1.1).s (t - w) (by omega)).mp (by omega)
              exact ⟨U l.seen + w, rfl, by omega⟩
        · refine .inr (.inr ?_)
          have := cnt_mono (dm := dW W T) (dm' := dW W U) (ls := N.to s) (t := t) (t' := t) fun l hl k e hk => by
            have m1 := to_mem hl
            unfold dW at e ⊢
            split at e
            · rename_i hmo
              rw [if_pos hmo]
              cases hw : W l with
              | none => rw [hw] at e; cases e
              | some w =>
                simp only [hw, Option.map_some, Option.some.injEq] at e
                have hp := h.pos ok m1.1 hw
                have := (hag _ (ok.lok l m1.1).s (t - w) (by omega)).mp (by omega)
                exact ⟨U l.seen + w, rfl, by omega⟩
            · cases e
          omega
      exact ⟨key T U hag, key U T hag.symm⟩
  low := fun s hs T hT => by
    unfold repF
    split
    · rename_i h1; exact (hO s h1).1
    · refine Int.not_lt.mp fun hlt => ?_
      have hle : N.seenW W T s ≤ -1 := by omega
      unfold Net.seenW at hle
      rw [momG_le (ok.n1 s hs).1] at hle
      have hpos : ∀ l ∈ N.to s, ∀ w, W l = some w → 1 ≤ T l.seen + w := fun l hl w hw => by
        have m1 := to_mem hl
        have := h.pos ok m1.1 hw
        have := hT _ (ok.lok l m1.1).s
        omega
      rcases hle with h1 | ⟨l, hl, k, e, h1⟩ | h1
      · have := ok.d1; omega
      · unfold cW at e
        split at e
        · cases e
        · cases hw : W l with
          | none => rw [hw] at e; cases e
          | some w =>
            have hp := hpos l hl w hw
            simp only [hw, Option.map_some, Option.some.injEq] at e
            omega
      · have hz : cntLe (dW W T) (N.to s) (-1) = 0 := by
          unfold cntLe
          rw [List.length_eq_zero_iff, List.filter_eq_nil_iff]
          intro l hl
          cases hd : dW W T l with
          | none => simp
          | some k =>
            unfold dW at hd
            split at hd
            · cases hw : W l with
              | none => rw [hw] at hd; cases hd
              | some w =>
                have hp := hpos l hl w hw
                simp only [hw, Option.map_some, Option.some.injEq] at hd
                simp only [decide_eq_true_eq]
                omega
            · cases hd
        have := (ok.n1 s hs).1
        omega
  high := fun s hs T => by
    unfold repF
    split
    · rename_i h1; exact (hO s h1).2
    · exact momG_hi (ok.n1 s hs).1
end
end VI
set_option Elab.async false
set_option linter.all false
set_option maxRecDepth 100000
set_option autoImplicit false
namespace VI
open PySem L2
end VI
set_option Elab.async false
set_option linter.all false
set_option maxRecDepth 100000
set_option autoImplicit false
namespace VI
open PySem L2
section
variable {N : Net} {b c d e : Bool} {row : List Int}
structure PInv (names : List Str) (a k : Nat) (ls : List Line) : Prop where
  len : ls.length = k
  ok : ∀ l ∈ ls, l.Ok names
  nd : (ls.map Line.pair).Nodup
  ix : ∀ l ∈ ls, ∃ j < k, names[j + a]? = some l.seen ∧ names[j + (1 - a)]? = some l.viewer
theorem PInv.one {names : List Str} {a k : Nat} {ls : List Line} (i : PInv names a k ls) (nd : names.Nodup) {l : Line} (h : l.Ok names) (h1 : names[k + a]? = some l.seen) (h2 : names[k + (1 - a)]? = some l.viewer) : PInv names a (k + 1) (ls ++ [l]) := by
  refine ⟨by have := i.len; simp; omega, fun m hm => ?_, pairs_app i.nd fun m hm e => ?_, fun m hm => ?_⟩
  · rcases List.mem_append.mp hm with hm | hm
    · exact i.ok m hm
    · have : m = l := by simpa using hm
      subst this; exact h
  · obtain ⟨j, hj, q1, q2⟩ := i.ix m hm
    obtain ⟨e1, e2⟩ := pair_inj.mp e
    rw [e1] at q1
    have a1 := L2.nodup_ix nd q1 h1
    omega
  · rcases List.mem_append.mp hm with hm | hm
    · obtain ⟨j, hj, q⟩ := i.ix m hm; exact ⟨j, by omega, q⟩
    · have : m = l := by simpa using hm
      subst this; exact ⟨k, by omega, h1, h2⟩
end
end VI
set_option Elab.async false
set_option linter.all false
set_option maxRecDepth 100000
set_option autoImplicit false
namespace VI
open PySem L2
end VI
set_option Elab.async false
set_option linter.all false
set_option maxRecDepth 100000
set_option autoImplicit false
namespace VI
open PySem L2
@[simp] theorem tyD_tbl {b : Bool} {ks : List Str} {T : Str → Int} : tyD (tblD b ks T) = some "dict" := (rfl)
def Net.faults (N : Net) (T : Str → Int) : List (Str × Str) := N.names.filterMap fun s => (N.fault T s).map fun k => (s, k)
section
variable {N : Net} {T : Str → Int} {b c d g : Bool}
theorem fault_kind {s k : Str} (h : N.fault T s = some k) : k = "err" ∨ k = "sleep" := by
  unfold Net.fault at h
  split at h
  · cases h; exact .inl rfl
  · split at h
    · cases h; exact .inr rfl
    · cases h
theorem faults_mem {p : Str × Str} (h : p ∈ N.faults T) : p.1 ∈ N.names ∧ N.fault T p.1 = some p.2 := by
  obtain ⟨s, hs, e⟩ := List.mem_filterMap.mp h
  cases hf : N.fault T s with
  | none => rw [hf] at e; cases e
  | some k => rw [hf] at e; cases e; exact ⟨hs, hf⟩
end
end VI
set_option Elab.async false
set_option linter.all false
set_option maxRecDepth 100000
set_option autoImplicit false
namespace VI
open PySem L2
section
variable {b c d e g : Bool} {ks : List Str} {lo hi : Str → Int} {s : Str} {N : Net} {T : Str → Int} {row : List Int} {L : LogS}
@[simp] theorem inOwn_log {g : List D → Option (D × Ev)} {neg : Bool} {x : D} : inOwnD 1 g neg x (logD b L) = (ap g [logD b L, x]).bind (blD neg) := (rfl)
def inB (lo hi T : Str → Int) (s : Str) : Bool := decide (lo s ≤ T s) && decide (T s ≤ hi s)
def insideB (ks : List Str) (lo hi T : Str → Int) : Bool := ks.all (inB lo hi T)
end
end VI
set_option Elab.async false
set_option linter.all false
set_option maxRecDepth 100000
set_option autoImplicit false
namespace VI
open PySem L2
theorem take_not {α : Type} {ks : List α} {i : Nat} {s : α} (nd : ks.Nodup) (hs : ks[i]? = some s) : s ∉ ks.take i := fun z => by
  have htake : ks.take (i + 1) = ks.take i ++ [s] := by rw [List.take_succ, hs]; rfl
  have := nd.sublist (List.take_sublist (i + 1) ks)
  rw [htake, List.nodup_append] at this
  exact this.2.2 s z s (by simp) rfl
end VI
set_option Elab.async false
set_option linter.all false
set_option maxRecDepth 100000
set_option autoImplicit false
namespace VI
open PySem L2
section
variable {N : Net} {b c d e f g : Bool} {row : List Int} {T : Str → Int} {W : Line → Option Int} {s : Str}
def LateOk (l : Line) (w : Option Int) : Prop := (∀ m, l.most = some m → ∃ v, w = some v ∧ l.least ≤ v ∧ v ≤ m) ∧ (l.most = none → ∀ v, w = some v → l.least ≤ v ∧ v ≤ 9999)
theorem Lates.of (h : ∀ l ∈ N.lines, LateOk l (W l)) : Lates N W := ⟨fun l hl m hm => (h l hl).1 m hm, fun l hl hm w hw => (h l hl).2 hm w hw⟩
end
end VI
set_option Elab.async false
set_option linter.all false
set_option maxRecDepth 100000
set_option autoImplicit false
namespace VI
open PySem L2
section
variable {ks : List Str} {lo hi : Int} {f : Str → (Str → Int) → Int} {b S T U : Str → Int}
theorem Causal.maxC (c : Causal ks lo hi f) (hb : ∀ s ∈ ks, b s ≤ hi) : Causal ks lo hi (fun s T => max (b s) (f s T)) where
  mono := fun s hs T U h => by have := c.mono s hs T U h; omega
  cause := fun s hs T U t h => by have := c.cause s hs T U t h; simp only [Int.max_le, this]
  low := fun s hs T h => by have := c.low s hs T h; omega
  high := fun s hs T => by have := c.high s hs T; have := hb s hs; omega
theorem Causal.free (c : Causal ks lo hi f) (p : Str → Bool) (hb : ∀ s ∈ ks, lo ≤ b s ∧ b s ≤ hi) : Causal ks lo hi (fun s T => if p s = true then b s else f s T) where
  mono := fun s hs T U h => by
    have := c.mono s hs T U h
    split <;> omega
  cause := fun s hs T U t h => by
    have := c.cause s hs T U t h
    split
    · exact Iff.rfl
    · exact this
  low := fun s hs T h => by
    have := c.low s hs T h; have := hb s hs
    split <;> omega
  high := fun s hs T => by
    have := c.high s hs T; have := hb s hs
    split <;> omega
theorem Causal.above (c : Causal ks lo hi f) (hS : Fix ks f S) (lS : ∀ r ∈ ks, lo ≤ S r) (h : ∀ s ∈ ks, f s U ≤ U s) (lU : ∀ r ∈ ks, lo ≤ U r) : ∀ s ∈ ks, S s ≤ U s := by
  suffices ∀ n : Nat, ∀ s ∈ ks, U s < lo + n → S s ≤ U s by
    intro s hs
    exact this (U s - lo + 1).toNat s hs (by have := lU s hs; omega)
  intro n
  induction n with
  | zero => intro s hs hn; have := lU s hs; omega
  | succ n ih =>
    intro s hs hn
    have ag : Agree ks (fun r => max (S r) (U r)) U (U s) := fun r hr u hu => by
      show max (S r) (U r) ≤ u ↔ U r ≤ u
      constructor
      · intro z; omega
      · intro z; have := ih r hr (by omega); omega
    have h1 := (c.cause s hs _ _ (U s) ag).mpr (h s hs)
    have h2 := c.mono s hs S (fun r => max (S r) (U r)) fun r _ => by show S r ≤ max (S r) (U r); omega
    rw [hS s hs]; omega
end
section
variable {N : Net} {T U : Str → Int} {s : Str}
def leastW : Line → Option Int := fun l => some l.least
theorem dims_W (ls : List Line) : dims ls T = ls.filterMap (dW leastW T) := by
  unfold dims
  induction ls with
  | nil => rfl
  | cons l ls ih =>
    cases h : l.most with
    | none => rw [List.filter_cons_of_pos (by simp [h]), List.map_cons, ih, List.filterMap_cons_some (by simp [dW, leastW, h]; rfl)]
    | some m => rw [List.filter_cons_of_neg (by simp [h]), ih, List.filterMap_cons_none (by simp [dW, h])]
theorem soonest_W : N.soonest T s = N.seenW leastW T s := by
  unfold Net.soonest moment Net.seenW momG
  rw [dims_W, momentC_min]
  rfl
theorem least_lates (ok : N.Ok) : Lates N leastW := ⟨fun l hl m hm => ⟨l.least, rfl, Int.le_refl _, (ok.lok l hl).m m hm |>.1⟩, fun l hl hm w hw => by cases hw; exact ⟨Int.le_refl _, by have := (ok.lok l hl).l999; omega⟩⟩
theorem soon_causal (ok : N.Ok) : Causal N.names 0 N.dawn (fun s T => N.soonest T s) := by
  have c := repF_causal (os := []) (O := fun _ => 0) ok (least_lates ok) (fun _ z => nomatch z)
  have e : repF N leastW [] (fun _ => 0) = fun s T => N.soonest T s := by
    funext s T; rw [soonest_W]; unfold repF; simp
  rw [e] at c; exact c
end
section
variable {N : Net} {lo T U F : Str → Int} {slp : Str → Bool} {s : Str}
structure Floors (N : Net) (lo : Str → Int) (slp : Str → Bool) (F : Str → Int) : Prop where
  low : ∀ s ∈ N.names, lo s ≤ F s
  line : ∀ l ∈ N.lines, slp l.viewer = false → ∀ m, l.most = some m → F l.viewer - m ≤ F l.seen
  one : ∀ s ∈ N.names, F s = lo s ∨ ∃ l ∈ N.lines, l.seen = s ∧ slp l.viewer = false ∧ ∃ m, l.most = some m ∧ F s = F l.viewer - m
  hi : ∀ s ∈ N.names, F s ≤ N.dawn
  least : ∀ U : Str → Int, (∀ s ∈ N.names, lo s ≤ U s) → (∀ l ∈ N.lines, slp l.viewer = false → ∀ m, l.most = some m → U l.viewer - m ≤ U l.seen) → ∀ s ∈ N.names, F s ≤ U s
end
def hasF (fs : List (Str × Str)) (s : Str) : Bool := decide (s ∈ fs.map (·.1))
structure FL (N : Net) (fs : List (Str × Str)) : Prop where
  nam : ∀ p ∈ fs, p.1 ∈ N.names
  kd : ∀ p ∈ fs, p.2 = "err" ∨ p.2 = "sleep"
  nd : (fs.map (·.1)).Nodup
  len : fs.length < 1000
theorem FL.nil {N : Net} : FL N [] := ⟨fun _ z => (nomatch z), fun _ z => (nomatch z), List.nodup_nil, by simp⟩
def slpF (fs : List (Str × Str)) (s : Str) : Bool := hasF fs s && decide (kindOf fs s = "sleep")
def errF (fs : List (Str × Str)) (s : Str) : Bool := hasF fs s && decide (kindOf fs s = "err")
section
variable {a b c d : Bool} {N : Net} {L : LogS} {fs : List (Str × Str)} {ks : List Str} {has : Str → Bool} {kd : Str → Str} {s : Str} {T F B : Str → Int}
theorem kindOf_mem (h : hasF fs s = true) : (s, kindOf fs s) ∈ fs := by
  unfold hasF at h
  rw [decide_eq_true_eq, List.mem_map] at h
  obtain ⟨p, hp, e⟩ := h
  cases z : fs.find? fun p => decide (p.1 = s) with
  | none => exact absurd e (by simpa using List.find?_eq_none.mp z p hp)
  | some r =>
    have e1 : r.1 = s := by simpa using List.find?_some z
    have : kindOf fs s = r.2 := by unfold kindOf; rw [z]; rfl
    rw [this, ← e1]
    exact List.mem_of_find?_eq_some z
theorem kindOf_eq {k : Str} (nd : (fs.map (·.1)).Nodup) (h : (s, k) ∈ fs) : hasF fs s = true ∧ kindOf fs s = k := by
  have h1 : hasF fs s = true := by unfold hasF; rw [decide_eq_true_eq]; exact List.mem_map.mpr ⟨_, h, rfl⟩
  refine ⟨h1, ?_⟩
  have h2 := kindOf_mem h1
  obtain ⟨i, hi⟩ := List.getElem?_of_mem h
  obtain ⟨j, hj⟩ := List.getElem?_of_mem h2
  have hij : i = j := by
    have e1 : (fs.map (·.1))[i]? = some s := by rw [List.getElem?_map, hi]; rfl
    have e2 : (fs.map (·.1))[j]? = some s := by rw [List.getElem?_map, hj]; rfl
    exact (List.getElem?_inj (List.getElem?_eq_some_iff.mp e1).1 nd).mp (e1.trans e2.symm)
  subst hij
  rw [hi] at hj
  exact (Prod.mk.inj (Option.some.inj hj)).2.symm
theorem slpF_iff (h : FL N fs) : slpF fs s = true ↔ (s, ("sleep" : Str)) ∈ fs := by
  unfold slpF
  rw [Bool.and_eq_true, decide_eq_true_eq]
  constructor
  · rintro ⟨h1, h2⟩; have := kindOf_mem h1; rwa [h2] at this
  · intro h1; exact kindOf_eq h.nd h1
theorem errF_iff (h : FL N fs) : errF fs s = true ↔ (s, ("err" : Str)) ∈ fs := by
  unfold errF
  rw [Bool.and_eq_true, decide_eq_true_eq]
  constructor
  · rintro ⟨h1, h2⟩; have := kindOf_mem h1; rwa [h2] at this
  · intro h1; exact kindOf_eq h.nd h1
def freeF (N : Net) (has : Str → Bool) (kd : Str → Str) (s : Str) : Bool := N.look s || (has s && decide (kd s = "err"))
def sprF (N : Net) (free : Str → Bool) (B : Str → Int) (s : Str) (T : Str → Int) : Int := if free s = true then B s else max (B s) (N.soonest T s)
theorem sprF_causal {free : Str → Bool} (ok : N.Ok) (hB : ∀ s ∈ N.names, 0 ≤ B s ∧ B s ≤ N.dawn) : Causal N.names 0 N.dawn (sprF N free B) :=
  ((soon_causal ok).maxC fun s hs => (hB s hs).2).free free hB
def raised (F : Str → Int) : Option Str → Str → Int
  | none, s => F s
  | some f, s => max (F s) (F f)
abbrev freeN (N : Net) (fs : List (Str × Str)) : Str → Bool := freeF N (hasF fs) (kindOf fs)
def EarlT (N : Net) (fs : List (Str × Str)) (F : Str → Int) (fi : Option Str) (E : Str → Int) : Prop := Fix N.names (sprF N (freeN N fs) (raised F fi)) E ∧ ∀ s ∈ N.names, 0 ≤ E s ∧ E s ≤ N.dawn
def NoEarl (N : Net) (fs : List (Str × Str)) (F : Str → Int) (fi : Option Str) : Prop := ∃ f, fi = some f ∧ (freeN N fs f = false ∨ F f = N.dawn)
theorem raised_range {fi : Option Str} (hF : ∀ s ∈ N.names, 0 ≤ F s ∧ F s ≤ N.dawn) (hf : ∀ f, fi = some f → f ∈ N.names) : ∀ s ∈ N.names, 0 ≤ raised F fi s ∧ raised F fi s ≤ N.dawn := fun s hs => by
  have h1 := hF s hs
  cases fi with
  | none => exact h1
  | some f => have h2 := hF f (hf f rfl); simp only [raised]; omega
end
section
variable {N : Net} {lo T E F : Str → Int} {fs : List (Str × Str)} {fi : Option Str} {s : Str}
structure Fits (N : Net) (lo : Str → Int) (fs : List (Str × Str)) (fi : Option Str) (T : Str → Int) : Prop where
  rng : ∀ s ∈ N.names, 0 ≤ T s ∧ T s ≤ N.dawn
  low : ∀ s ∈ N.names, lo s ≤ T s
  flt : ∀ s ∈ N.names, ∀ k, N.fault T s = some k → (s, k) ∈ fs
  fst : ∀ f, fi = some f → T f < N.dawn ∧ ∀ s ∈ N.names, T f ≤ T s
theorem due_le {t : Int} (hs : T s ≤ N.dawn) : ¬ N.due T s < T s ↔ ∀ l ∈ N.lines, l.viewer = s → ∀ m, l.most = some m → T s ≤ T l.seen + m := by
  rw [due_key hs]
  constructor
  · intro h l hl hv m hm
    exact Int.not_lt.mp fun z => h ⟨l, hl, hv, m, hm, z⟩
  · rintro h ⟨l, hl, hv, m, hm, z⟩
    have := h l hl hv m hm; omega
theorem soon_line (ok : N.Ok) {l : Line} (hl : l ∈ N.lines) (hm : l.most ≠ none) : N.soonest T l.viewer ≤ T l.seen + l.least := by
  rw [soonest_W]
  unfold Net.seenW
  rw [momG_le (ok.n1 _ (ok.lok l hl).v).1]
  exact .inr (.inl ⟨l, List.mem_filter.mpr ⟨hl, by simp⟩, T l.seen + l.least, by unfold cW leastW; rw [if_neg hm]; rfl, Int.le_refl _⟩)
theorem soon_lo (ok : N.Ok) (hs : s ∈ N.names) {t : Int} (h : ∀ r ∈ N.names, t ≤ T r) (hd : t < N.dawn) : t < N.soonest T s := by
  refine Int.not_le.mp fun hle => ?_
  rw [soonest_W] at hle
  unfold Net.seenW at hle
  have hn := (ok.n1 s hs).1
  rw [momG_le hn] at hle
  rcases hle with h1 | ⟨l, hl, k, e, h1⟩ | h1
  · omega
  · unfold cW leastW at e
    split at e
    · cases e
    · simp only [Option.map_some, Option.some.injEq] at e
      have o := ok.lok l (to_mem hl).1
      have := o.l1
      have := h _ o.s
      omega
  · have hz : cntLe (dW leastW T) (N.to s) t = 0 := by
      unfold cntLe
      rw [List.length_eq_zero_iff, List.filter_eq_nil_iff]
      intro l hl
      have o := ok.lok l (to_mem hl).1
      have := o.l1
      have := h _ o.s
      unfold dW leastW
      by_cases hmo : l.most = none
      · rw [if_pos hmo]
        simp only [Option.map_some, decide_eq_true_eq]; omega
      · rw [if_neg hmo]; simp
    omega
theorem err_iff : N.fault T s = some ("err" : Str) ↔ N.look s = false ∧ T s < N.soonest T s := by
  unfold Net.fault
  split
  · simp_all
  · rename_i h
    constructor
    · intro z
      split at z
      · exact absurd (Option.some.inj z) (by decide)
      · cases z
    · intro z; exact absurd z h
theorem sleep_iff (ok : N.Ok) (hs : s ∈ N.names) (hT : T s ≤ N.dawn) : N.fault T s = some ("sleep" : Str) ↔ N.due T s < T s := by
  unfold Net.fault
  constructor
  · intro z
    split at z
    · exact absurd (Option.some.inj z) (by decide)
    · split at z
      · assumption
      · cases z
  · intro z
    rw [if_neg, if_pos z]
    rintro ⟨_, h⟩
    rw [due_key hT] at z
    obtain ⟨l, hl, hv, k, hk, hlt⟩ := z
    have o := ok.lok l hl
    have := o.m k hk
    have h2 := soon_line (T := T) ok hl (by rw [hk]; simp)
    rw [hv] at h2
    omega
theorem raised_ge (s : Str) : F s ≤ raised F fi s := by
  cases fi with
  | none => exact Int.le_refl _
  | some f => simp only [raised]; omega
theorem Fits.floor (ok : N.Ok) (h : Fits N lo fs fi T) (hfs : FL N fs) (hF : Floors N lo (slpF fs) F) : ∀ s ∈ N.names, F s ≤ T s :=
  hF.least T h.low fun l hl hsl m hm => by
    have o := ok.lok l hl
    have hno : N.fault T l.viewer ≠ some ("sleep" : Str) := fun z => by
      have := (slpF_iff hfs).mpr (h.flt _ o.v _ z)
      rw [this] at hsl; cases hsl
    have hd := (h.rng _ o.v).2
    rw [Ne, sleep_iff ok o.v hd, due_le (t := 0) hd] at hno
    have := hno l hl rfl m hm
    omega
theorem Fits.least (ok : N.Ok) (h : Fits N lo fs fi T) (hfs : FL N fs) (hF : Floors N lo (slpF fs) F) (hF0 : ∀ s ∈ N.names, 0 ≤ F s) (hf : ∀ f, fi = some f → f ∈ N.names) (hE : EarlT N fs F fi E) : ∀ s ∈ N.names, E s ≤ T s := by
  have hFT := h.floor ok hfs hF
  have hB : ∀ s ∈ N.names, raised F fi s ≤ T s := fun s hs => by
    have h1 := hFT s hs
    cases fi with
    | none => exact h1
    | some f =>
      have h2 := (h.fst f rfl).2 s hs
      have h3 := hFT f (hf f rfl)
      simp only [raised]; omega
  have c := sprF_causal (free := freeN N fs) (B := raised F fi) ok (raised_range (fun s hs => ⟨hF0 s hs, hF.hi s hs⟩) hf)
  refine c.above hE.1 (fun r hr => (hE.2 r hr).1) (fun s hs => ?_) (fun r hr => (h.rng r hr).1)
  unfold sprF
  split
  · exact hB s hs
  · rename_i hfr
    have hno : N.fault T s ≠ some ("err" : Str) := fun z => by
      have := (errF_iff hfs).mpr (h.flt s hs _ z)
      exact hfr (by show (N.look s || errF fs s) = true; rw [this, Bool.or_true])
    have hlk : N.look s = false := by
      cases hl : N.look s with
      | false => rfl
      | true => exact absurd (show freeN N fs s = true by show (N.look s || _) = true; rw [hl]; rfl) hfr
    rw [Ne, err_iff] at hno
    have : N.soonest T s ≤ T s := Int.not_lt.mp fun z => hno ⟨hlk, z⟩
    have := hB s hs
    omega
theorem EarlT.fits (ok : N.Ok) (hfs : FL N fs) (hF : Floors N lo (slpF fs) F) (hF0 : ∀ s ∈ N.names, 0 ≤ F s) (hf : ∀ f, fi = some f → f ∈ N.names) (hn : ¬ NoEarl N fs F fi) (hE : EarlT N fs F fi E) : Fits N lo fs fi E where
  rng := hE.2
  low := fun s hs => by
    have h1 := hF.low s hs
    have h2 := raised_ge (F := F) (fi := fi) s
    have h3 := hE.1 s hs
    unfold sprF at h3
    split at h3 <;> omega
  flt := fun s hs k hk => by
    have hB : ∀ s ∈ N.names, raised F fi s ≤ E s := fun s hs => by
      have h3 := hE.1 s hs
      unfold sprF at h3
      split at h3 <;> omega
    have hd := (hE.2 s hs).2
    rcases fault_kind hk with rfl | rfl
    · rw [err_iff] at hk
      have h3 := hE.1 s hs
      unfold sprF at h3
      split at h3
      · rename_i hfr
        have hfr : (N.look s || errF fs s) = true := hfr
        rw [hk.1, Bool.false_or] at hfr
        exact (errF_iff hfs).mp hfr
      · omega
    · rw [← slpF_iff hfs]
      cases hsl : slpF fs s with
      | true => rfl
      | false =>
        exfalso
        rw [sleep_iff ok hs hd, due_key hd] at hk
        obtain ⟨l, hl, hv, m, hm, hlt⟩ := hk
        have o := ok.lok l hl
        have hm1 := o.m m hm
        have hl1 := o.l1
        have hsn := hB l.seen o.s
        have hfl := hF.line l hl (by rw [hv]; exact hsl) m hm
        rw [hv] at hfl
        have h3 := hE.1 s hs
        have hge := raised_ge (F := F) (fi := fi) l.seen
        have hbs : raised F fi s ≤ E l.seen + m := by
          cases fi with
          | none => simp only [raised] at *; omega
          | some f => simp only [raised] at *; omega
        unfold sprF at h3
        split at h3
        · omega
        · have h4 := soon_line (T := E) ok hl (by rw [hm]; simp)
          rw [hv] at h4
          omega
  fst := fun f e => by
    have mf := hf f e
    have hfr : freeN N fs f = true := by
      cases h : freeN N fs f with
      | true => rfl
      | false => exact absurd ⟨f, e, .inl h⟩ hn
    have hnd : F f ≠ N.dawn := fun z => hn ⟨f, e, .inr z⟩
    have h3 := hE.1 f mf
    unfold sprF at h3
    rw [if_pos hfr] at h3
    have hrf : raised F fi f = F f := by rw [e]; simp [raised]
    rw [hrf] at h3
    refine ⟨by have := hF.hi f mf; omega, fun s hs => ?_⟩
    have h4 := hE.1 s hs
    have h5 : F f ≤ raised F fi s := by rw [e]; simp only [raised]; omega
    unfold sprF at h4
    split at h4 <;> omega
end
end VI
set_option Elab.async false
set_option linter.all false
set_option maxRecDepth 100000
set_option autoImplicit false
namespace VI
open PySem L2
section
variable {a b c d e g : Bool} {N : Net} {L : LogS} {fs : List (Str × Str)} {ks : List Str} {s : Str} {T F E : Str → Int} {fi : Option Str} {lo hi : Str → Int} {row : List Int}
@[simp] theorem flts_frz : D.frzL (fs.map fltD) = fs.map fltD := by rw [frzL_map]; exact List.map_congr_left fun _ _ => fltD_frz
structure Early (L : LogS) (fs : List (Str × Str)) (fi : Option Str) (o : Option (Str → Int)) : Prop where
  fits : ∀ E, o = some E → Fits L.net L.lo fs fi E
  least : ∀ T, Fits L.net L.lo fs fi T → ∃ E, o = some E ∧ ∀ s ∈ L.net.names, E s ≤ T s
  noFirst : fi = none → o ≠ none
  nn : o = none ↔ ∃ f, fi = some f ∧ ((L.net.look f = false ∧ (f, ("err" : Str)) ∉ fs) ∨ L.lo f = L.net.dawn)
end
theorem Fits.sub {N : Net} {lo : Str → Int} {fs gs : List (Str × Str)} {fi : Option Str} {T : Str → Int} (h : Fits N lo fs fi T) (hs : ∀ p ∈ fs, p ∈ gs) : Fits N lo gs fi T := ⟨h.rng, h.low, fun s m k e => hs _ (h.flt s m k e), h.fst⟩
section
variable {a b c d e g : Bool} {N : Net} {L : LogS} {fs : List (Str × Str)} {fi : Option Str} {lo hi T : Str → Int} {row : List Int}
theorem fltD_same {p q : Str × Str} : (fltD p).same (fltD q) = decide (p = q) := by
  obtain ⟨p1, p2⟩ := p
  obtain ⟨q1, q2⟩ := q
  simp [fltD, D.same]
theorem flts_fit {n : Nat} {fs : List (Str × Str)} (h1 : ∀ p ∈ fs, NameOk p.1) (h2 : ∀ p ∈ fs, p.2 = "err" ∨ p.2 = "sleep") : D.fitL (n + 2) (fs.map fltD) = true := by
  simp [fltD]
  intro x y hp
  refine ⟨(h1 _ hp).fit, ?_⟩
  rcases h2 _ hp with e | e <;> simp only at e <;> subst e <;> decide +kernel
theorem flt_any {p : Str × Str} {fs : List (Str × Str)} : (fs.map fltD).any (fun y => y.same (fltD p)) = decide (p ∈ fs) := by
  rw [List.any_map]
  rw [Bool.eq_iff_iff, List.any_eq_true, decide_eq_true_eq]
  constructor
  · rintro ⟨q, hq, h⟩
    simp only [Function.comp, fltD_same, decide_eq_true_eq] at h
    exact h ▸ hq
  · intro h
    exact ⟨p, h, by simp [fltD_same]⟩
theorem flt_nin {p : Str × Str} (hp : NameOk p.1 ∧ (p.2 = "err" ∨ p.2 = "sleep")) (h1 : ∀ p ∈ fs, NameOk p.1) (h2 : ∀ p ∈ fs, p.2 = "err" ∨ p.2 = "sleep") : ninD (fltD p) (.lst b (fs.map fltD)) = some (.bl (!decide (p ∈ fs))) := by
  have hf := flts_fit (n := 61) h1 h2
  have hq := flts_fit (n := 61) (fs := [p]) (fun q hq => by have : q = p := by simpa using hq
                                                            subst this; exact hp.1) (fun q hq => by have : q = p := by simpa using hq
                                                                                                    subst this; exact hp.2)
  have hp1 : D.fitL 62 [.str p.1, .str p.2] = true := by
    simp only [List.map_cons, List.map_nil, fltD, D.fitL, Bool.and_eq_true] at hq
    have := hq.1
    simpa [D.fit] using this
  have := ninD_tl (c := b) (xs := [.str p.1, .str p.2]) (ys := fs.map fltD) hp1 hf
  rw [← flt_any]
  exact this
end
end VI
set_option Elab.async false
set_option linter.all false
set_option maxRecDepth 100000
set_option autoImplicit false
namespace VI
open PySem L2
variable {X : Cx} {cl : Tb} {mu : List Nat} {o : Expr} {p : Pl}
end VI
set_option Elab.async false
set_option linter.all false
set_option maxRecDepth 100000
set_option autoImplicit false
namespace VI
open PySem PySem.Spec PySem.W PySem.Calls PyProof.Rows L2 NdefX
structure ExF (K : PySem.W.Frag) (file : Str) (q : Str) (params : Arguments) (body : List Stmt) (scope : Scope) (C f cc cda : Addr) (fd : FuncData) : Prop where
  ox : OexC K C
  fn : ∃ oc od osl doc pm an ct, K.lookup f = some ⟨oc, od, .func fd, osl⟩ ∧ fd = fnX "__init__" q params body scope [("__class__", cc)] .none .none doc pm an (.ref cda) ct
  code : codeIn K (.ref cda) q = true
  cell : ∃ cl cld csl, K.lookup cc = some ⟨cl, cld, .cell (some (.ref C)), csl⟩
  cfile : ∃ ccl cdd vs ccs tf, K.lookup cda = some ⟨ccl, cdd, .fields vs, ccs⟩ ∧ vs[2]? = some (.str file tf)
  sup : ks_superIn K C C "__init__" = some (some (.builtin "ValueError.__init__"))
  thr : nsIn K cStatics "thirdparty.any" = some none
  subV : subIn K (.ref C) (.type "ValueError") = some true
  self : mroIn K C (.ref C) = some true
structure PgOk (P : Program) (file : Str) : Prop where
  file : ((P.main.file : Str) == file) = true
  sup : (P.main.scope.names.lookup ("super" : Str)).isSome = false
section
variable {P : Program} {w : World} {K : PySem.W.Frag} {mg : Str → Option Value} {base : Heap} {file q : Str} {params : Arguments} {scope : Scope} {C f cc cda : Addr} {fd : FuncData} {body rest : List Stmt}
abbrev nfOf (q : Str) (params : Arguments) (body : List Stmt) (scope : Scope) (cc cda : Addr) : NF := ⟨"__init__", q, params, body, scope, [("__class__", cc)], cda⟩
theorem exF_cls (F : ExF K file q params body scope C f cc cda fd) : ∃ cd, clsIn K C = some cd ∧ ∃ bm, cd.mro = .ref C :: bm ∧ HandSPX.refsVE bm = true := by
  obtain ⟨nm, q, N, bs, bm, sn, sub, ab, col, dd, k0, k1, k2, k3, k5, hC, hbm⟩ := F.ox.cls
  exact ⟨_, by unfold clsIn; rw [hC] <;> rfl, bm, rfl, hbm⟩
theorem super_line {CX : CXT} {N : List Str} {A : Around} {outer : List Env} {s0 s : Shared} {H0 H : Hp} {E : XK} {σ : L2.St} {a : Addr} {ar : Arg} {m : Str} {j : Nat} {p0 p1 pa pc pos pe : Pos} {Q : Flow → Shared → Prop} {Er : Value → Shared → Prop}
    (F : ExF K file q params body scope C f cc cda fd) (pg : PgOk P file) (I : Inv (ncx CX P w K mg base N (nfOf q params body scope cc cda) f A outer s0 H0 E) [] σ H s)
    (hks : scope.names.lookup ("super" : Str) = some .globalImplicit) (hkc : scope.names.lookup ("__class__" : Str) = some .free) (hka : scope.names.lookup ar.arg = some .local) (hp : (params.posonlyargs ++ params.args).head? = some ar)
    (hmg : mg "super" = none) (hN : N[0]? = some ar.arg) (hσ : σ[0]? = some (some (.ref a))) (ha : H a = some (exo a C none))
    (h : ∀ s', Inv (ncx CX P w K mg base N (nfOf q params body scope cc cda) f A outer s0 H0 E) [] σ H s' → Q .next s') {pl : Env → Sem Bool}
    (he : ∀ env : Env, eval (.Call (.Attribute (.Call (.Name "super" p0) [] [] p1) "__init__" pa) [.Constant (.str m) j pc] [] pos) env = (do
      let ov ← attributeBase (.Call (.Name "super" p0) [] [] p1) "__init__" env (eval (.Call (.Name "super" p0) [] [] p1) env)
      standAt pa.atName
      let (f, first) ← holding [ov] (getMethod ov "__init__" (pl env))
      callWith pos f first (backTo pos (starEach [.Constant (.str m) j pc] env)) [])) :
    _root_.PySem.wpAt (model P w) (A.deeper (envF (nfOf q params body scope cc cda) f s0.heap.objs.size)) (.func body (envF (nfOf q params body scope cc cda) f s0.heap.objs.size))
      (exec (.Expr (.Call (.Attribute (.Call (.Name "super" p0) [] [] p1) "__init__" pa) [.Constant (.str m) j pc] [] pos) pe) (envF (nfOf q params body scope cc cda) f s0.heap.objs.size)) Q Er s := by
  obtain ⟨oc, od, osl, doc, pm, an, ct, lk, rfl⟩ := F.fn
  obtain ⟨cl, cld, csl, lcc⟩ := F.cell
  obtain ⟨ccl, cdd, vs, ccs, tf, lcda, hvs⟩ := F.cfile
  have hk : scope.kind = .function := I.ok.kind
  have X : K.In s.heap := I.kIn
  obtain ⟨cd, hcl, bm, hmro, hbm⟩ := exF_cls F
  obtain ⟨nm, q', Nn, bs, bm', sn, sub, ab, col, dd, z0, z1, z2, z3, z5, lC, hbm'⟩ := F.ox.cls
  have hx := exo_at I.hok ha
  obtain ⟨t1, hx⟩ := hx
  refine ks_wpAt_Expr_any ?_ (by unfold interactive; simp [envF, envX, hk]) (by rfl)
  refine ks_wpAt_MethodCall ?_ (he _)
  refine ks_wpAt_super_base (env := envF (nfOf q params body scope cc cda) f s0.heap.objs.size) hks hkc (by decide) rfl (X _ _ lk) rfl hp rfl (X _ _ lcda) rfl hvs pg.file pg.sup ?_
  obtain ⟨mb, h1, h2⟩ := I.mod.blt
  refine ks_loadName_global hk hks (loadGlobal_builtin (env := envF (nfOf q params body scope cc cda) f s0.heap.objs.size) (I.mod.glob.keeps I.bk) hmg (h1.keeps I.bk) ((h2 _ (by decide)).trans (by decide +kernel : bootBuiltins "super" = some (.type "super"))) ⟨rfl, ?_⟩)
  refine wpAny_loadName_free hk hkc rfl ⟨_, X _ _ lcc, rfl⟩ ?_
  obtain ⟨mL, hn, hl⟩ := I.loc
  obtain ⟨u, ru, hu⟩ := hl 0 ar.arg (.ref a) hN hσ (.inl hka)
  have hua : u = .ref a := ru
  subst hua
  have hm0 : mL ar.arg = some (.ref a) := by
    rcases hu with ⟨_, e⟩ | ⟨k, _⟩
    · exact e
    · have k : scope.names.lookup ar.arg = some .cell ∨ scope.names.lookup ar.arg = some .free := k
      rcases k with k | k <;> rw [hka] at k <;> cases k
  refine wpAny_loadName_local hk hka hn hm0 ?_
  have hCo : ∃ oC, s.heap.get? C = some oC ∧ oC.data = .cls cd := by
    unfold clsIn at hcl
    split at hcl
    · rename_i c d cd' sl ho
      cases hcl
      exact ⟨_, X _ _ ho, rfl⟩
    · cases hcl
  obtain ⟨oC, gC, dC⟩ := hCo
  refine ks_wpAny_isType_cls gC dC ⟨rfl, ?_⟩
  obtain ⟨hp0, gg, dr, tk, os⟩ := s
  refine ks_wpAny_call_super gC dC hx rfl (fun c e => nomatch e) (looks_mroIn X F.self) (fun h1' e1 k1 => ?_)
  have X1 : K.In h1' := X.keeps k1
  have hx1 := k1 _ _ hx
  have IA : InstAt h1' a _ C none := ⟨hx1, rfl, rfl, trivial⟩
  have hxC : a ≠ C := ks_ne X1 IA hcl
  have hf : alongIn K "__init__" ((cd.mro.dropWhile (· != .ref C)).drop 1) = some (some (.builtin "ValueError.__init__")) := by
    have := F.sup
    unfold ks_superIn at this
    rw [hcl] at this
    exact this
  have hI : W.Looks (model P w) h1' (isInstance (.ref a) (.type "ValueError")) true := IA.type.andThen (looks_subIn X1 F.subV)
  have hmr : W.Looks (model P w) h1' (mroOf (.ref C)) cd.mro := fun A Q E s k q => wpAny_bind ((looks_clsIn X1 hcl) A _ E s k (wpAny_pure q))
  refine kxs_getMethod kxs_ValueError e1 (looks_opaque X1 F.thr) hmr rfl X1 hf hI hxC (by decide) ?_
  have e2 : (h1'.push (kxs_mw "ValueError.__init__" a)).get? h1'.objs.size = some (kxs_mw "ValueError.__init__" a) := Heap.get?_push_at rfl rfl
  have k2 : ∀ b o, h1'.get? b = some o → (h1'.push (kxs_mw "ValueError.__init__" a)).get? b = some o := fun b o e => Heap.get?_push_of_some _ e
  generalize hh2 : h1'.push (kxs_mw "ValueError.__init__" a) = h2' at e2 k2 ⊢
  generalize hu2 : h1'.objs.size = u2 at e2 ⊢
  show wpAny _ _ (callWith pos (.ref u2) [] (backTo pos ((false, eval (.Constant (.str m) j pc) _) :: starEach [] _)) []) _ _ _
  refine kxs_callWith (i := "ValueError.__init__") (x := a) (by rfl) (evalArgs_plain (spliced_cons (wpAny_Constant_str (k := j) (pos := pc) (spliced_nil ⟨e2, ?_⟩))))
  have hC2 : h2'.get? C = some (excClassObj nm q' C Nn bs bm' true sn sub ab col dd z0 z1 z2 z3 z5 "ValueError.__new__") := k2 _ _ (k1 _ _ (X _ _ lC))
  have hx2 : h2'.get? a = some (excRec (.ref C) t1 none .none .none (.bool false)) := k2 _ _ hx1
  have FB := PySem.F.excBase_ValueError
  refine wpAny_call (codeAny_of_tree ?_)
  show wpAny _ _ (callAny (.ref u2) ⟨[.str m _], []⟩) _ _ _
  simp only [callAny]
  refine wpAny_bind (wpAny_load e2 ?_)
  simp only [kxs_mw, show (Value.type "method-wrapper" == Value.type "method" || Value.type "method-wrapper" == Value.type "builtin_function_or_method" || Value.type "method-wrapper" == Value.type "method-wrapper") = true by decide, if_true]
  refine KFB.if_so (by decide) ?_
  refine wpAny_bind (check_bound_init FB.toExcCallFacts hC2 hx2 rfl ?_)
  refine wpAny_bind (wpAny_pure (wpAny_pure ?_))
  refine ⟨plainId_quiet FB.init.plain _, codeAny_builtin FB.initEntry ?_⟩
  refine exc_init_tree (cls := .ref C) (t0 := t1) (dv := none) (c2 := .none) (c3 := .none) (b4 := .bool false) hx2 (by show 1 ≤ sizeLine; rw [sizeLine_eq]; omega) fun h3 k3 e3 t3 => ?_
  have J := I.write (t' := tk + 2) (x := a) (e := a) (o := exo a C none) (h' := h3) (by rw [ha]; exact True.intro) (.inl rfl) (fun b o hb e => k3 b o hb (k2 _ _ (k1 _ _ e))) ⟨_, e3⟩ (exo_ok e3)
  have eu : upd H a (exo a C none) = H := by
    funext b
    by_cases hb : b = a
    · rw [hb, upd_same, ha]
    · rw [upd_ne hb]
  rw [eu] at J
  exact h _ J
def spI (C : Addr) (fs : List Str) : Sp := fun vs H Q _ => ∃ (a : Addr) (ys : List V), vs = .ref a :: ys ∧ ys.length = fs.length ∧ H a = some (exo a C none) ∧
  ∀ (d : Addr) (H2 : Hp), H d = none → d ≠ a → H2 a = some (exo a C (some d)) → H2 d = some (exd d (fs.zip ys).reverse) → (∀ b, b ≠ a → b ≠ d → H2 b = H b) → Q .non H2
structure Asg (CX : CXT) (P : Program) (w : World) (K : PySem.W.Frag) (mg : Str → Option Value) (base : Heap) (N : List Str) (F : NF) (f C : Addr) (fs : List Str) (rest : List Stmt) : Prop where
  run : ∀ (A : Around) (outer : List Env) (s : Shared) (H : Hp) (E : XK), ∃ t, PSs (ncx CX P w K mg base N F f A outer s H E) rest t ∧ ∀ (D : Ends) (H1 : Hp) (a : Addr) (ys : List V) (tl : L2.St), ys.length = fs.length → H1 a = some (exo a C none) →
    (∀ (d : Addr) (H2 : Hp), H1 d = none → d ≠ a → H2 a = some (exo a C (some d)) → H2 d = some (exd d (fs.zip ys).reverse) → (∀ b, b ≠ a → b ≠ d → H2 b = H1 b) → D.nx ((V.ref a :: ys).map some ++ tl) H2) → t D ((V.ref a :: ys).map some ++ tl) H1
theorem exinit_ok {CX : CXT} {k : Nat} {N ps fs : List Str} {ar : Arg} {m : Str} {j : Nat} {p0 p1 pa pc pos pe : Pos} {pl : Env → Sem Bool}
    (F : ExF K file q params body scope C f cc cda fd) (pg : PgOk P file) (hbody : body = .Expr (.Call (.Attribute (.Call (.Name "super" p0) [] [] p1) "__init__" pa) [.Constant (.str m) j pc] [] pos) pe :: rest)
    (S : NScope N ps ["__class__"] scope) (hlp : ps.length = fs.length + 1) (hks : scope.names.lookup ("super" : Str) = some .globalImplicit) (hp : (params.posonlyargs ++ params.args).head? = some ar) (har : ps[0]? = some ar.arg)
    (hmg : mg "super" = none) (as_ : Asg CX P w K mg base N (nfOf q params body scope cc cda) f C fs rest)
    (he : ∀ env : Env, eval (.Call (.Attribute (.Call (.Name "super" p0) [] [] p1) "__init__" pa) [.Constant (.str m) j pc] [] pos) env = (do
      let ov ← attributeBase (.Call (.Name "super" p0) [] [] p1) "__init__" env (eval (.Call (.Name "super" p0) [] [] p1) env)
      standAt pa.atName
      let (f, first) ← holding [ov] (getMethod ov "__init__" (pl env))
      callWith pos f first (backTo pos (starEach [.Constant (.str m) j pc] env)) [])) :
    FnOk P w K mg base CX (k + 1) f fd ps (spI C fs) := by
  refine ⟨fun vs H Q E h => ?_, fun A outer s H args us vs Q E hr e0 hb r hsp => ?_⟩
  · obtain ⟨a, ys, rfl, hl, _⟩ := h
    rw [List.length_cons, hl, hlp]
  · obtain ⟨a, ys, rfl, hl, ha, hq⟩ := hsp
    obtain ⟨oc, od, osl, doc, pm, an, ct, lk, efd⟩ := F.fn
    obtain ⟨cl, cld, csl, lcc⟩ := F.cell
    subst efd
    have KX : K.In s.heap := e0.mod.kin.keeps fun b o e => (e0.bs b o e).1
    have lim : s.heap.NoLimit := e0.mod.nolimit.keeps fun b o e => (e0.bs b o e).1
    have hlen : (V.ref a :: ys).length = ps.length := by rw [List.length_cons, hl, hlp]
    have hka : scope.names.lookup ar.arg = some .local := S.par _ (List.mem_of_getElem? har)
    have hN0 : N[0]? = some ar.arg := by
      have hps : 0 < ps.length := by omega
      have this : (N.take (ps.length + ["__class__"].length))[0]? = (ps ++ [("__class__" : Str)])[0]? := congrArg (fun l : List Str => l[0]?) S.pre
      rw [List.getElem?_take_of_lt (by omega), List.getElem?_append_left hps] at this
      rw [this]; exact har
    have hcells : CellsAt [("__class__", cc)] ["__class__"] [some (.ref C)] s.heap H := by
      refine ⟨rfl, fun y c e => ?_, fun x y c e1 e2 => ?_, fun i y e => ?_⟩
      · have hc : c = cc := by
          by_cases h : y = "__class__"
          · subst h; simpa [List.lookup] using e.symm
          · have : (y == ("__class__" : Str)) = false := by simpa using h
            simp [List.lookup, this] at e
        subst hc
        have hb := e0.mod.kin _ _ lcc
        exact ⟨(e0.bs _ _ hb).2, _, _, (e0.bs _ _ hb).1, rfl⟩
      · have hx : ∀ z, [(("__class__" : Str), cc)].lookup z = some c → z = "__class__" := fun z e => by
          by_cases h : z = "__class__"
          · exact h
          · have : (z == ("__class__" : Str)) = false := by simpa using h
            simp [List.lookup, this] at e
        rw [hx x e1, hx y e2]
      · have hy : i = 0 ∧ y = "__class__" := by
          cases i with
          | zero => exact ⟨rfl, by simpa using e.symm⟩
          | succ n => simp at e
        obtain ⟨rfl, rfl⟩ := hy
        have hb := e0.mod.kin _ _ lcc
        refine ⟨cc, by simp [List.lookup], fun v hv => ?_⟩
        have hv : v = .ref C := by simpa using hv.symm
        subst hv
        exact ⟨.ref C, rfl, _, (e0.bs _ _ hb).1, rfl⟩
    refine ks_codeAny_call_defAt (body := body) (binds := ps.zip us) hr.depth (KX _ _ lk) rfl lim (codeRec_of KX F.code) rfl hb S.nocell (fun y hy => S.par y.1 (List.of_mem_zip hy).1) (fun h₁ hns kp => ?_) S.co S.gen S.kind
    have I := inv_startN (CX := CX) (N := N) (F := nfOf q params body scope cc cda) (f := f) (A := A) (E := E) (mg := mg) (base := base) (K := K) (P := P) (w := w) (tk := s.toks + (ps.zip us).length) S hr.hd e0 hlen r hcells hns kp
    show _root_.PySem.wpAt (model P w) (A.deeper (envF (nfOf q params body scope cc cda) f s.heap.objs.size)) (.func body (envF (nfOf q params body scope cc cda) f s.heap.objs.size)) (execs body (envF (nfOf q params body scope cc cda) f s.heap.objs.size)) _ _ _
    rw [hbody]
    refine ks_wpAt_execs_cons ?_
    have hσ : (startF N (V.ref a :: ys) [some (V.ref C)])[0]? = some (some (.ref a)) := rfl
    rw [← hbody]
    refine super_line (E := E) (mg := mg) (CX := CX) (base := base) (H0 := H) F pg I hks (S.frk _ (by simp)) hka hp hmg hN0 hσ ha (fun s' J => ?_) he
    show _root_.PySem.wpAt _ _ _ (execs rest _) _ _ _
    obtain ⟨t, ht, hq2⟩ := as_.run A outer s H E
    refine wpAt_of_wpAny ?_
    refine wpAny_mono (ht.run [] s' _ H { nx := fun _ H' => Q .non H', rt := Q } J (hq2 _ H a ys _ hl ha fun d H2 q1 q2 q3 q4 q5 => hq d H2 q1 q2 q3 q4 q5)) (fun fl s'' hs => ?_) fun e s'' hs => hs
    have fin : ∀ {σ' : L2.St} {H' : Hp} {v : V} {u : Value}, Inv (ncx CX P w K mg base N (nfOf q params body scope cc cda) f A outer s H E) [] σ' H' s'' → L2.RelV v u → Q v H' → CE outer P w H s Q u s'' :=
      fun {σ' H' v u} J rv q => ⟨v, H', J.os, J.bare, J.base, J.hok, rv, q⟩
    cases fl with
    | ret u =>
      obtain ⟨v, σ', H', J, rv, q⟩ := hs
      exact fin J rv q
    | next =>
      obtain ⟨σ', H', J, q⟩ := hs
      exact fin (v := V.non) (u := Value.none) J rfl q
    | brk =>
      obtain ⟨_, _, _, q⟩ := hs
      exact False.elim q
    | cont =>
      obtain ⟨_, _, _, q⟩ := hs
      exact False.elim q
theorem asg1 {CX : CXT} {N : List Str} {F : NF} {self x1 f1 : Str} {s1 s2 s3 s4 : Pos} (ox : OexC K C) (h0 : N[0]? = some self) (h1 : N[1]? = some x1) (v0 : F.scope.names.lookup self = some .local) (v1 : F.scope.names.lookup x1 = some .local)
    (hno : findIn K (.ref C) f1 = some none) (d0 : (self == ("__debug__" : Str)) = false := by decide) (d1 : (x1 == ("__debug__" : Str)) = false := by decide) (c0 : (self == ("__classdict__" : Str)) = false := by decide) (c1 : (x1 == ("__classdict__" : Str)) = false := by decide) :
    Asg CX P w K mg base N F f C [f1] [.Assign [.Attribute (.Name self s1) f1 s2] (.Name x1 s3) s4] := by
  refine ⟨fun A outer s H E => ⟨_, pss_one (ps_ost (pe_var (i := 0) h0 (.inl v0) d0 c0) (pe_var (i := 1) h1 (.inl v1) d1 c1) (by rfl)), fun D H1 a ys tl hl ha q => ?_⟩⟩
  match ys, hl with
  | [y], _ =>
    refine ⟨y, rfl, .ref a, rfl, a, C, rfl, ox, hno, .inl ⟨ha, fun dx hd hne => ?_⟩⟩
    refine q dx _ hd hne upd_same ?_ fun b h1 h2 => ?_
    · rw [upd_ne hne, upd_same]; rfl
    · rw [upd_ne h1, upd_ne h2]
theorem asg3 {CX : CXT} {N : List Str} {F : NF} {self x1 x2 x3 f1 f2 f3 : Str} {s1 s2 s3 s4 t1 t2 t3 t4 u1 u2 u3 u4 : Pos} (ox : OexC K C) (h0 : N[0]? = some self) (h1 : N[1]? = some x1) (h2 : N[2]? = some x2) (h3 : N[3]? = some x3)
    (v0 : F.scope.names.lookup self = some .local) (v1 : F.scope.names.lookup x1 = some .local) (v2 : F.scope.names.lookup x2 = some .local) (v3 : F.scope.names.lookup x3 = some .local)
    (n1 : findIn K (.ref C) f1 = some none) (n2 : findIn K (.ref C) f2 = some none) (n3 : findIn K (.ref C) f3 = some none)
    (d0 : (self == ("__debug__" : Str)) = false := by decide) (d1 : (x1 == ("__debug__" : Str)) = false := by decide) (d2 : (x2 == ("__debug__" : Str)) = false := by decide) (d3 : (x3 == ("__debug__" : Str)) = false := by decide)
    (c0 : (self == ("__classdict__" : Str)) = false := by decide) (c1 : (x1 == ("__classdict__" : Str)) = false := by decide) (c2 : (x2 == ("__classdict__" : Str)) = false := by decide) (c3 : (x3 == ("__classdict__" : Str)) = false := by decide) :
    Asg CX P w K mg base N F f C [f1, f2, f3] [.Assign [.Attribute (.Name self s1) f1 s2] (.Name x1 s3) s4, .Assign [.Attribute (.Name self t1) f2 t2] (.Name x2 t3) t4, .Assign [.Attribute (.Name self u1) f3 u2] (.Name x3 u3) u4] := by
  refine ⟨fun A outer s H E => ⟨_, pss_cons (ps_ost (pe_var (i := 0) h0 (.inl v0) d0 c0) (pe_var (i := 1) h1 (.inl v1) d1 c1) (by rfl)) (pss_cons (ps_ost (pe_var (i := 0) h0 (.inl v0) d0 c0) (pe_var (i := 2) h2 (.inl v2) d2 c2) (by rfl))
    (pss_one (ps_ost (pe_var (i := 0) h0 (.inl v0) d0 c0) (pe_var (i := 3) h3 (.inl v3) d3 c3) (by rfl)))), fun D H1 a ys tl hl ha q => ?_⟩⟩
  match ys, hl with
  | [y1, y2, y3], _ =>
    refine ⟨y1, rfl, .ref a, rfl, a, C, rfl, ox, n1, .inl ⟨ha, fun dx hd hne => ?_⟩⟩
    refine ⟨y2, rfl, .ref a, rfl, a, C, rfl, ox, n2, .inr ⟨dx, [(f1, y1)], upd_same, by rw [upd_ne hne, upd_same], by simp, ?_⟩⟩
    have na : a ≠ dx := Ne.symm hne
    refine ⟨y3, rfl, .ref a, rfl, a, C, rfl, ox, n3, .inr ⟨dx, [(f2, y2), (f1, y1)], by rw [upd_ne na, upd_same], upd_same, by simp, ?_⟩⟩
    refine q dx _ hd hne (by rw [upd_ne na, upd_ne na, upd_same]) upd_same fun b q1 q2 => ?_
    rw [upd_ne q2, upd_ne q2, upd_ne q1, upd_ne q2]
theorem made_ok {H1 H2 : Hp} {a d C : Addr} {fs : List Str} {ys : List V} (h1 : H1 a = none) (hd : upd H1 a (exo a C none) d = none) (hne : d ≠ a) (h4 : ∀ b, b ≠ a → b ≠ d → H2 b = upd H1 a (exo a C none) b) : upd (del H2 a) d (.xd (fs.zip ys).reverse) = upd H1 d (.xd (fs.zip ys).reverse) := by
  funext b
  by_cases hb : b = d
  · rw [hb, upd_same, upd_same]
  · rw [upd_ne hb, upd_ne hb]
    by_cases ha : b = a
    · rw [ha, del_same, h1]
    · rw [del_ne ha, h4 b ha hb, upd_ne ha]
end
end VI
set_option Elab.async false
set_option linter.all false
set_option maxRecDepth 100000
set_option autoImplicit false
namespace VI
open PySem L2
inductive XOut where
  | rt (d : D) (A : Ev)
  | xc (c : Nat) (fs : List (Str × D)) (A : Ev)
def runX (n N : Nat) (m : SM) (ds : List D) : Option XOut :=
  if ds.length = n then
    match m (ds.map some ++ List.replicate (N - n) none) with
    | some (.rt d A) => some (.rt d A)
    | some (.nx A) => some (.rt .non A)
    | some (.xc c fs A) => some (.xc c fs A)
    | _ => none
  else none
def SpX (K : PySem.W.Frag) (cl : Nat → Addr) (mu : List Nat) (n : Nat) (f : List D → Option XOut) : Sp := fun vs H Q E =>
  vs.length = n ∧ ∃ B ds F S, Good K (tb cl) (gs0 H B S mu vs) B H (vs.map some) (ds.map some) F ∧
    ((∃ d A', f ds = some (.rt d A') ∧ ∀ σ' B' H' F' v fp, Good K (tb cl) (gs0 H B S mu vs) B' H' σ' A' F' → Rep K (tb cl) B' H' d v fp → Own (gs0 H B S mu vs) B' F' fp → Q v H') ∨
     ∃ c fs A', f ds = some (.xc c fs A') ∧ ∀ σ' B' H' F' d, Good K (tb cl) (gs0 H B S mu vs) B' H' σ' A' F' → FldsAt K cl B' d fs → E (.ref (cl c)) (some d) H')
section
variable {P : Program} {w : World} {K : PySem.W.Frag} {mg : Str → Option Value} {base : Heap} {x qual : Str} {params : Arguments} {body : List Stmt} {scope : Scope} {dvs : List V} {kws : List (Str × V)} {f : Addr} {fd : FuncData} {cl : Nat → Addr} {B H : Hp} {σ : L2.St} {A : Ev} {F : Nat → List Addr}
theorem Good.wish {G : GS} {h : Option Held} {W W' : WX} (g : Good K ⟨cl, h, W⟩ G B H σ A F) : Good K ⟨cl, h, W'⟩ G B H σ A F := ⟨g.sub, g.len, g.at_, g.emp, g.nd, g.dis, g.nb, g.le0, g.fr, { toTK := g.tk.toTK, tab := g.tk.tab }, g.own, g.bnew, g.keep, g.lkd, g.hx⟩
theorem fn_okX {mu : List Nat} {m : SM} {N ps : List Str} {k : Nat} (Fd : FunD K x qual params body scope dvs kws f fd) (S : FnScope N ps scope)
    (hb : ∀ (cdv : Value) (A : Around) (outer : List Env) (s : Shared) (H : Hp) (E : XK), Room k (A.deeper (PyProof.Rows.envOfC qual scope s.heap.objs.size f cdv)) →
      Takes (cxOf (L2.CX P w) P w K mg base N qual scope f cdv A outer s H E) (fun c d _ H' => E c d H') → PassesOwn (model P w) (A.deeper (PyProof.Rows.envOfC qual scope s.heap.objs.size f cdv)) (PyProof.Rows.envOfC qual scope s.heap.objs.size f cdv) (cxOf (L2.CX P w) P w K mg base N qual scope f cdv A outer s H E).xe →
      VSs (cxOf (L2.CX P w) P w K mg base N qual scope f cdv A outer s H E) ⟨cl, none, fun c d _ H' => E c d H'⟩ mu body m) :
    FnOk P w K mg base (L2.CX P w) (k + 1) f fd ps (SpX K cl mu ps.length (runX ps.length N.length m)) := by
  refine Fd.ok S (fun vs H Q E h => h.1) fun cdv A outer s H vs Q E hr h => ?_
  obtain ⟨t, p, r⟩ := hb cdv A outer s H E hr (takes_of rfl rfl rfl rfl) (passes_of rfl)
  obtain ⟨hl, B, ds, F, S', g, h2⟩ := h
  refine ⟨t, p, ?_⟩
  have es : L2.start N vs = vs.map some ++ List.replicate (N.length - ps.length) none := by unfold L2.start; rw [hl]
  rw [es]
  have g1 := (Good.wish (W' := fun c d _ H' => E c d H') g).more (N.length - ps.length)
  rcases h2 with ⟨d, A', e, q⟩ | ⟨c, fs, A', e, q⟩
  · unfold runX at e
    split at e
    · rename_i hd
      split at e
      · rename_i d' A1 hm
        cases e
        exact r _ _ _ B H F kp_mu g1 _ hm _ fun σ' B' H' F' v fp g2 rp w => q σ' B' H' F' v fp g2.wish rp w
      · rename_i A1 hm
        cases e
        exact r _ _ _ B H F kp_mu g1 _ hm _ fun σ' B' H' F' g2 => q σ' B' H' F' .non [] g2.wish rep_non Own.nil
      · cases e
      · cases e
    · cases e
  · unfold runX at e
    split at e
    · rename_i hd
      split at e
      · cases e
      · cases e
      · rename_i c' fs' A1 hm
        cases e
        exact r _ _ _ B H F kp_mu g1 _ hm _ fun σ' B' H' F' d g2 fa => q σ' B' H' F' d g2.wish fa
      · cases e
    · cases e
end
theorem zip_look_gen {α : Type} : ∀ {ps : List Str} {us : List α} {i : Nat} {x : Str} {u : α}, ps.Nodup → ps[i]? = some x → us[i]? = some u → (ps.zip us).reverse.lookup x = some u
  | [], _, _, _, _, _, h, _ => by simp at h
  | _ :: _, [], _, _, _, _, _, h => by simp at h
  | p :: ps, v :: us, 0, x, u, nd, h1, h2 => by
    simp at h1 h2
    subst h1
    subst h2
    have hn : (ps.zip us).reverse.lookup p = none := by
      cases e : (ps.zip us).reverse.lookup p with
      | none => rfl
      | some w =>
        have hm := PySem.mem_of_lookup e
        exact absurd (List.of_mem_zip (List.mem_reverse.mp hm)).1 (List.nodup_cons.mp nd).1
    rw [List.zip_cons_cons, List.reverse_cons, List.lookup_append, hn]
    simp [List.lookup]
  | p :: ps, v :: us, i + 1, x, u, nd, h1, h2 => by
    have e : (ps.zip us).reverse.lookup x = some u := zip_look_gen (i := i) (List.nodup_cons.mp nd).2 (by simpa using h1) (by simpa using h2)
    rw [List.zip_cons_cons, List.reverse_cons, List.lookup_append, e] <;> rfl
def sRaise (c : Nat) (fs : List Str) (ms : Ev → Option (List D)) : SM := fun A => (ms A).bind fun ds => if D.plainL ds = true ∧ ds.length = fs.length then some (.xc c (fs.zip ds) A) else none
structure ExK (P : Program) (w : World) (K : PySem.W.Frag) (mg : Str → Option Value) (base : Heap) (C : Addr) (fs : List Str) (k : Nat) : Prop where
  ox : OexC K C
  fn : ∃ f fd ps, PySem.W.findIn K (.ref C) "__init__" = some (some (.ref f)) ∧ PySem.W.typeIn K (.ref f) = some (.type "function") ∧ FnOk P w K mg base CX0 k f fd ps (spI C fs) ∧ Binds K fd ps []
section
variable {X : Cx} {cl : Tb} {mu : List Nat} {e : Expr} {es : List Expr} {ms : Ev → Option (List D)} {x : Str} {p pos rpos : Pos} {c k : Nat} {fs : List Str}
theorem vs_raise (hc : X.calm = true) (tk : Takes X cl.W) (hr : Room (k + 1) X.A) (T : ExK X.prog X.w X.K X.mg X.base (cl c) fs k) (hg : Gl X x) (hm : X.mg x = some (.ref (cl c))) (ha : EvA X cl (e :: es) ms)
    (nd : fs.Nodup := by decide) (hl : fs.length ≤ 1000 := by decide) (hdb : (x == ("__debug__" : Str)) = false := by decide) (he : starEach (e :: es) X.env = (false, eval e X.env) :: starEach es X.env := by rfl) (hpl : (backTo pos (starEach es X.env)).any (·.1) = false := by rfl) :
    VS X cl mu (.Raise (some (.Call (.Name x p) (e :: es) [] pos)) none rpos) (sRaise c fs ms) := by
  obtain ⟨t, pa, r⟩ := ha
  obtain ⟨f, fd, ps, hi, ht, Fn, hb⟩ := T.fn
  refine ⟨_, ps_raise hc tk (pmk_oex T.ox hi ht Fn hr hb .nil pass0 hg hm pa hdb he hpl), fun G σ A B H F hk g out eo Dn ok => ?_⟩
  unfold sRaise at eo
  simp only [Option.bind_eq_some_iff] at eo
  obtain ⟨ds, hds, eo⟩ := eo
  split at eo
  · rename_i hc2
    obtain ⟨hp, hlen⟩ := hc2
    cases eo
    refine r σ A B H g.renv ds hds _ fun vs B1 H1 f1 n1 q1 => ?_
    have z := RepL.plain hp q1
    subst z
    have hlv : vs.length = fs.length := by rw [← q1.length, hlen]
    refine ⟨by rw [hlv]; exact hl, fun a ha => ⟨a, vs, by rw [List.append_nil], hlv, upd_same, fun d H2 h1 h2 h3 h4 h5 => ?_⟩⟩
    have hd : H1 d = none := by rw [upd_ne h2] at h1; exact h1
    refine ⟨rfl, d, _, h3, h4, hd, ?_⟩
    rw [made_ok ha h1 h2 h5]
    have n2 : New B1 H1 (upd B1 d (.xd (fs.zip vs).reverse)) (upd H1 d (.xd (fs.zip vs).reverse)) := New.told n1.sub hd
    refine ok σ _ _ F d ((g.news n1).news n2) ⟨_, upd_same, fun q hq => ?_⟩
    obtain ⟨i, hi⟩ := List.getElem?_of_mem hq
    obtain ⟨e1, e2⟩ := List.getElem?_zip_eq_some.mp hi
    obtain ⟨v, e3, e4⟩ := q1.at e2
    exact ⟨v, zip_look_gen nd e1 e3, e4.mono n2.le.le fun _ z => nomatch z⟩
  · cases eo
end
section
variable {X : Cx} {k n : Nat} {f C : Addr} {fd : FuncData} {ps ks : List Str} {sp : Sp} {W : WX} {x m : Str} {p pos apos : Pos} {e o : Expr} {es : List Expr} {kws : List Keyword} {ta : TE} {t tk : TA} {g : List Value → List Value → List Value} {gV : List V → List V → List V} {pl : Sem Bool} {pins : List (Addr × Obj)} {σ : L2.St} {H : Hp} {s : Shared} {Q : VK} {us ws : List Value} {vs zs : List V}
end
def XOut.clean : XOut → Bool
  | .rt d _ => d.clean
  | .xc _ fs _ => fs.all fun p => p.2.clean
theorem FldsAt.thaw {K : PySem.W.Frag} {cl : Nat → Addr} {B H B' H' : Hp} {fp : List Addr} {d : Addr} {fs : List (Str × D)} (s : BLe B H) (st : ∀ a ∈ fp, ∃ o, H a = some o ∧ ownable o = true) (n : New (addB B H fp) H B' H') (fa : FldsAt K cl B' d fs) (c : fp = [] ∨ (fs.all fun p => p.2.clean) = true) :
    ∃ B2, New B H B2 H' ∧ FldsAt K cl B2 d fs := by
  classical
  have le := addB_leS s st
  by_cases hf : fp = []
  · subst hf
    have e : addB B H [] = B := by funext a; exact addB_out (fun z => nomatch z)
    rw [e] at n
    exact ⟨B', n, fa⟩
  · have hc := c.resolve_left hf
    have off : ∀ a o, B' a = some o → ownable o = false → ¬ (a ∈ fp ∧ B a = none) := fun a o e hw ⟨ha, _⟩ => by
      obtain ⟨o2, q, w⟩ := st a ha
      have h1 := n.le a o2 (by rw [addB_in ha]; exact q)
      rw [e] at h1
      cases h1
      rw [hw] at w; cases w
    refine ⟨fun a => if a ∈ fp ∧ B a = none then none else B' a, ⟨n.ex, fun a u e => ?_, ?_, fun a e => ?_⟩, ?_⟩
    · show (if a ∈ fp ∧ B a = none then none else B' a) = some u
      rw [if_neg (by rw [e]; rintro ⟨_, h⟩; cases h)]
      exact n.le a u (le a u e)
    · refine BLe0.trans (BLe.of_same fun a u e => ?_) n.sub
      show B' a = some u
      have e : (if a ∈ fp ∧ B a = none then none else B' a) = some u := e
      split at e
      · cases e
      · exact e
    · have e : (if a ∈ fp ∧ B a = none then none else B' a) ≠ none := e
      split at e
      · exact absurd rfl e
      · rename_i hn
        rcases n.nb a e with h | h
        · by_cases ha : a ∈ fp
          · exact .inl fun q => hn ⟨ha, q⟩
          · rw [addB_out ha] at h; exact .inl h
        · exact .inr h
    · obtain ⟨l, e, q⟩ := fa
      refine ⟨l, ?_, fun p hp => ?_⟩
      · show (if d ∈ fp ∧ B d = none then none else B' d) = _
        rw [if_neg (off d _ e rfl)]; exact e
      · obtain ⟨v, e2, r⟩ := q p hp
        have hcl : p.2.clean = true := List.all_eq_true.mp hc p hp
        refine ⟨v, e2, Rep.mono (BLe.refl _) (fun _ z => nomatch z) (r.thin (fun a vs e => ?_) hcl)⟩
        show (if a ∈ fp ∧ B a = none then none else B' a) = some (.tup vs)
        rw [if_neg (off a _ e rfl)]; exact e
section
variable {K : PySem.W.Frag} {cl : Nat → Addr} {B H : Hp} {ds zs cs : List D} {vs kvs cvs : List V} {f1 f2 : List Addr} {g : List D → Option XOut} {n : Nat} {src : List Src} {Q : VK} {E : XK} {out : XOut}
end
def OutX (K : PySem.W.Frag) (cl : Tb) (G : GS) (σ : L2.St) (Q : VK) (E : XK) : XOut → Prop
  | .rt d A' => ∀ v B' H' F' fp, Good K cl G B' H' σ A' F' → Rep K cl B' H' d v fp → Own G B' F' fp → Q v H'
  | .xc c fs A' => ∀ B' H' F' d, Good K cl G B' H' σ A' F' → FldsAt K cl B' d fs → E (.ref (cl c)) (some d) H'
def VEX (X : Cx) (cl : Tb) (mu : List Nat) (e : Expr) (m : Ev → Option XOut) : Prop := ∃ t : TE, PE X e t ∧ ∀ (G : GS) σ A B H F, (∀ p ∈ G.kp, p.1 ∈ mu) → Good X.K cl G B H σ A F → ∀ out, m A = some out → ∀ Q, OutX X.K cl G σ Q (fun c d H' => cl.W c d σ H') out → t σ H Q
section
variable {X : Cx} {cl : Tb} {mu : List Nat} {k n : Nat} {f C : Addr} {fd : FuncData} {ps ks : List Str} {src : List Src} {cs : List D} {cvs : List V} {x m : Str} {pos apos : Pos} {e o : Expr} {es : List Expr} {kws : List Keyword} {me : Ev → Option D} {ms mk : Ev → Option (List D)} {g : List D → Option XOut} {pl : Sem Bool} {p : Pl} {pn : Pos} {mx : Ev → Option XOut} {mv : Ev → Option (D × Ev)}
def ArX (n : Nat) (g : List D → Option XOut) : Prop := ∀ ds r, g ds = some r → ds.length = n
theorem ar_runX {n N : Nat} {m : SM} : ArX n (runX n N m) := fun ds r h => by
  unfold runX at h
  split at h
  · assumption
  · cases h
def XOut.at_ (A : Ev) : XOut → XOut
  | .rt d _ => .rt d A
  | .xc c fs _ => .xc c fs A
def sAsgX (i : Nat) (mx : Ev → Option XOut) : SM := fun A => (mx A).bind fun r => match r with
  | .rt d A' => if i < A'.length then some (.nx (A'.set i (some d))) else none
  | .xc c fs A' => some (.xc c fs A')
theorem vs_asgX {i : Nat} {y : Str} {pos' : Pos} (hN : X.N.Nodup) (hi : X.N[i]? = some y) (hx : Loc X.env.scope y) (hmu : i ∉ mu) (h : VEX X cl mu e mx) (hs : swapsWith e (some (.Name y pos')) pos.line X.env = pure false := by rfl) (hf : X.fn y = true ∨ X.env.scope.names.lookup y = some .local := by first | exact .inl rfl | exact .inr rfl | assumption) :
    VS X cl mu (.Assign [.Name y pos'] e pos) (sAsgX i mx) := by
  obtain ⟨t, pe, r⟩ := h
  refine ⟨_, ps_set hN hi hx pe hs hf, fun G σ A B H F hk g out eo Dn ok => ?_⟩
  unfold sAsgX at eo
  simp only [Option.bind_eq_some_iff] at eo
  obtain ⟨o2, e1, e2⟩ := eo
  refine r G σ A B H F hk g o2 e1 _ ?_
  cases o2 with
  | rt d A' =>
    simp only at e2
    split at e2
    · rename_i hl
      cases e2
      exact fun v B' H' F' fp g' rp w => ok _ B' H' _ (g'.set hl (fun p hp e => hmu (e ▸ hk p hp)) rp w)
    · cases e2
  | xc c fs A' =>
    cases e2
    exact fun B' H' F' d g' fa => ok σ B' H' F' d g' fa
end
section
variable {K : PySem.W.Frag} {cl : Tb} {G : GS} {B H : Hp} {σ : L2.St} {A : Ev} {F : Nat → List Addr}
theorem Good.hold_exc {i : Nat} {a d : Addr} {fs : List (Str × D)} {W : WX} (g : Good K cl G B H σ A F) (hi : i < A.length) (hk : ∀ p ∈ G.kp, p.1 ≠ i) (fa : FldsAt K cl B d fs) :
    Good K ⟨cl.f, some ⟨i, a, d, fs⟩, W⟩ { G with kp := (i, .ref a) :: G.kp } B H (σ.set i (some (.ref a))) (A.set i none) (setF F i []) := by
  have g1 := g.kill (i := i)
  refine ⟨g1.sub, by rw [List.length_set]; exact g1.len, fun j d' e => ?_, g1.emp, g1.nd, g1.dis, g1.nb, g1.le0, g1.fr, { toTK := g1.tk.toTK, tab := g1.tk.tab }, g1.own, g1.bnew, fun p hp => ?_, g1.lkd, fun z e => ?_⟩
  · by_cases h : j = i
    · subst h
      rw [List.getElem?_set_self hi] at e; cases e
    · obtain ⟨v, e1, r⟩ := g1.at_ j d' e
      exact ⟨v, by rw [List.getElem?_set_ne (Ne.symm h)]; exact e1, r⟩
  · rcases List.mem_cons.mp hp with rfl | hp
    · exact List.getElem?_set_self (by rw [g.len]; exact hi)
    · rw [List.getElem?_set_ne (Ne.symm (hk p hp))]; exact g.keep p hp
  · cases e
    exact ⟨List.mem_cons_self .., fa⟩
theorem Good.drop_exc {i : Nat} {z : Held} {a : Addr} {W : WX} (hh : cl.held = none) (g : Good K ⟨cl.f, some z, W⟩ { G with kp := (i, .ref a) :: G.kp } B H σ A F) (hk : ∀ p ∈ G.kp, p.1 ≠ i) : Good K cl G B H (σ.set i none) (A.set i none) (setF F i []) := by
  have g1 := g.kill (i := i)
  refine ⟨g1.sub, by rw [List.length_set]; exact g1.len, fun j d' e => ?_, g1.emp, g1.nd, g1.dis, g1.nb, g1.le0, g1.fr, { toTK := g1.tk.toTK, tab := g1.tk.tab }, g1.own, g1.bnew, fun p hp => ?_, g1.lkd, fun z e => by rw [hh] at e; cases e⟩
  · by_cases h : j = i
    · subst h
      by_cases hl : j < A.length
      · rw [List.getElem?_set_self hl] at e; cases e
      · rw [List.getElem?_eq_none (by simpa using hl)] at e; cases e
    · obtain ⟨v, e1, r⟩ := g1.at_ j d' e
      exact ⟨v, by rw [List.getElem?_set_ne (Ne.symm h)]; exact e1, r⟩
  · rw [List.getElem?_set_ne (Ne.symm (hk p hp))]
    exact g.keep p (List.mem_cons_of_mem _ hp)
end
def endTry (i : Nat) : SOut → Option SOut
  | .nx A => some (.nx (A.set i none))
  | .bk A => some (.bk (A.set i none))
  | .ct A => some (.ct (A.set i none))
  | .rt d A => some (.rt d (A.set i none))
  | .xc _ _ _ => none
def sTry (i : Nat) (dec : Nat → Option Bool) (mb : SM) (ms : Nat → List (Str × D) → SM) : SM := fun A => match mb A with
  | some (.xc c fs A') => match dec c with
    | some true => if i < A'.length then (ms c fs (A'.set i none)).bind (endTry i) else none
    | some false => some (.xc c fs A')
    | none => none
  | r => r
section
variable {X : Cx} {cl : Tb} {mu : List Nat} {x n : Str} {cv : Value} {i : Nat} {body suite : List Stmt} {b₀ : Stmt} {np pos pos' : Pos} {mb : SM} {ms : Nat → List (Str × D) → SM} {dec : Nat → Option Bool}
theorem vs_try (hs : X.stack = X.env :: X.outer) (hf : X.env.frame = some X.env.locals) (hN : X.N.Nodup) (hi : X.N[i]? = some n) (hln : X.env.kindOf n = some .local) (hc : Names X x cv) (tk : Takes X cl.W) (hmu : i ∉ mu)
    (hdec : ∀ c b, dec c = some b → PySem.W.exmOne X.K (.ref (cl c)) cv = some b)
    (hb : ∀ (W : WX) (pn : List (Addr × Obj)) (xe : Value → Shared → Prop), Takes (X.tr pn xe) W → PassesOwn (model X.prog X.w) X.A X.env xe → VSs (X.tr pn xe) ⟨cl.f, none, W⟩ mu body mb)
    (hsu : ∀ (a : Addr) (oe : Obj) (d : Addr) (pn : List (Addr × Obj)) (c : Nat) (fs : List (Str × D)), Zc (.ref (cl c)) (some d) oe → (∃ vs, oe.data = .fields vs) → VSs (X.suite a ((a, oe) :: pn)) ⟨cl.f, some ⟨i, a, d, fs⟩, fun _ _ _ _ => True⟩ (i :: mu) (b₀ :: suite) (ms c fs))
    (hh : cl.held = none := by rfl) :
    VS X cl mu (.Try body [.ExceptHandler (some (.Name x np)) (some n) (b₀ :: suite) pos'] [] [] pos) (sTry i dec mb ms) := by
  obtain ⟨f, held, W0'⟩ := cl
  simp only at hh
  subst hh
  let tb_ : WX → TS := fun W D σ H => ∀ (pn : List (Addr × Obj)) (xe : Value → Shared → Prop) (h1 : Takes (X.tr pn xe) W) (h2 : PassesOwn (model X.prog X.w) X.A X.env xe), (hb W pn xe h1 h2).choose D σ H
  let ts_ : Addr → Value → Option Addr → TS := fun a cls d En σ H => ∃ (c : Nat) (fs : List (Str × D)) (dd : Addr) (e1 : cls = .ref (f c)) (e2 : d = some dd), ∀ (oe : Obj) (pn : List (Addr × Obj)) (hz : Zc (.ref (f c)) (some dd) oe) (hd : ∃ vs, oe.data = .fields vs), (hsu a oe dd pn c fs hz hd).choose En σ H
  have p := ps_try_as (X := X) (tb := tb_) (ts := ts_) (np := np) (pos := pos) (pos' := pos') (body := body) (suite := suite) (b₀ := b₀) hs hf hN hi hln hc tk
    (fun W pn xe h1 h2 => ⟨fun pins s σ H D I h => (hb W pn xe h1 h2).choose_spec.1.run pins s σ H D I (h pn xe h1 h2)⟩)
    (fun a oe cls d pn hz hd => ⟨fun pins s σ H D I h => by
      obtain ⟨c, fs, dd, e1, e2, h⟩ := h
      subst e1 e2
      exact (hsu a oe dd pn c fs hz hd).choose_spec.1.run pins s σ H D I (h oe pn hz hd)⟩)
  refine ⟨_, p, fun G σ A B H F hk g out eo Dn ok => ?_⟩
  intro pn xe h1 h2
  have hkp : ∀ q ∈ G.kp, q.1 ≠ i := fun q hq e => hmu (e ▸ hk q hq)
  have run := (hb _ pn xe h1 h2).choose_spec.2 G σ A B H F hk g.wish
  unfold sTry at eo
  cases hm : mb A with
  | none => rw [hm] at eo; cases eo
  | some o2 =>
    refine run o2 hm Dn ?_
    rw [hm] at eo
    cases o2 with
    | nx A' => cases eo; exact fun σ' B' H' F' g' => ok σ' B' H' F' g'.wish
    | bk A' => cases eo; exact fun σ' B' H' F' g' => ok σ' B' H' F' g'.wish
    | ct A' => cases eo; exact fun σ' B' H' F' g' => ok σ' B' H' F' g'.wish
    | rt d A' => cases eo; exact fun σ' B' H' F' v fp g' rp w => ok σ' B' H' F' v fp g'.wish rp w
    | xc c fs A' =>
      intro σ' B' H' F' d g' fa
      simp only at eo
      cases hd : dec c with
      | none => rw [hd] at eo; cases eo
      | some b =>
        refine ⟨b, hdec c b hd, fun e a ha => ?_, fun e => ?_⟩
        · subst e
          rw [hd] at eo
          simp only at eo
          split at eo
          · rename_i hl
            simp only [Option.bind_eq_some_iff] at eo
            obtain ⟨o3, e3, e4⟩ := eo
            refine ⟨c, fs, d, rfl, rfl, fun oe pn2 hz hd2 => ?_⟩
            have g2 := Good.hold_exc (W := fun _ _ _ _ => True) (a := a) g' hl hkp fa
            refine (hsu a oe d pn2 c fs hz hd2).choose_spec.2 _ _ _ B' H' _ (fun q hq => ?_) g2 o3 e3 _ ?_
            · rcases List.mem_cons.mp hq with rfl | hq
              · exact List.mem_cons_self ..
              · exact List.mem_cons_of_mem _ (hk q hq)
            · cases o3 with
              | nx A3 => cases e4; exact fun σ3 B3 H3 F3 g3 => ok _ B3 H3 _ (Good.drop_exc (cl := ⟨f, none, W0'⟩) rfl g3 hkp)
              | bk A3 => cases e4; exact fun σ3 B3 H3 F3 g3 => ok _ B3 H3 _ (Good.drop_exc (cl := ⟨f, none, W0'⟩) rfl g3 hkp)
              | ct A3 => cases e4; exact fun σ3 B3 H3 F3 g3 => ok _ B3 H3 _ (Good.drop_exc (cl := ⟨f, none, W0'⟩) rfl g3 hkp)
              | rt d3 A3 =>
                cases e4
                exact fun σ3 B3 H3 F3 v fp g3 rp w => ok _ B3 H3 _ v fp (Good.drop_exc (cl := ⟨f, none, W0'⟩) rfl g3 hkp) rp ⟨w.nd, w.nb, w.own, fun j q z y => by
                  by_cases hj : j = i
                  · subst hj; rw [setF_same] at y; cases y
                  · rw [setF_ne hj] at y; exact w.dis j q z y⟩
              | xc c3 fs3 A3 => cases e4
          · cases eo
        · subst e
          rw [hd] at eo
          cases eo
          exact ok σ' B' H' F' d g'.wish fa
end
section
variable {X : Cx} {f : Nat → Addr} {W : WX} {n fld y : Str} {i c : Nat} {a d : Addr} {oe : Obj} {pn : List (Addr × Obj)} {fs : List (Str × D)} {np p1 p2 pos : Pos} {cv : Value} {u : V}
def mFx (ok : Nat → Bool) (c : Nat) (fs : List (Str × D)) (fld : Str) : Ev → Option D := fun _ => if ok c = true then fs.lookup fld else none
theorem ev_xf (ok : Nat → Bool) (hok : ∀ c, ok c = true → XfC X.K (f c) ∧ PySem.W.findIn X.K (.ref (f c)) fld = some none) (hz : Zc (.ref (f c)) (some d) oe) (hd : ∃ vs, oe.data = .fields vs) (hN : X.N[i]? = some n) (hv : Vis X.env.scope n)
    (hdb : (n == ("__debug__" : Str)) = false := by decide) (hcd : (n == ("__classdict__" : Str)) = false := by decide) (hb : attributeBase (.Name n p1) fld X.env (eval (.Name n p1) X.env) = eval (.Name n p1) X.env := by rfl) :
    EvV (X.suite a ((a, oe) :: pn)) ⟨f, some ⟨i, a, d, fs⟩, W⟩ (.Attribute (.Name n p1) fld pos) (mFx ok c fs fld) := by
  by_cases h : ok c = true
  · obtain ⟨T, hno⟩ := hok c h
    refine ⟨_, pe_xf (pn := pn) (a := a) T hno hz hd (pe_var (X := X.suite a ((a, oe) :: pn)) (i := i) hN hv hdb hcd) hb, fun σ A B H R v hm Q q => ?_⟩
    unfold mFx at hm
    rw [if_pos h] at hm
    obtain ⟨h1, l, h2, h3⟩ := R.hx ⟨i, a, d, fs⟩ rfl
    obtain ⟨v', h4, h5⟩ := h3 _ (PySem.mem_of_lookup hm)
    exact ⟨.ref a, h1, rfl, rfl, d, l, v', rfl, R.sub.xd _ _ h2, h4, q v' B H [] (New.refl R.sub) (h5.mono (BLe.refl B) fun _ z => nomatch z)⟩
  · obtain ⟨t, pe⟩ : ∃ t, PE (X.suite a ((a, oe) :: pn)) (.Attribute (.Name n p1) fld pos) t := ⟨fun _ _ _ => False, ⟨fun _ _ _ _ _ _ z => z.elim⟩⟩
    exact ⟨t, pe, fun σ A B H R v hm Q q => by unfold mFx at hm; rw [if_neg h] at hm; cases hm⟩
def rIsD (K : PySem.W.Frag) (D a d : Addr) : List V → Hp → VK → Prop := fun xs H Q => ∃ (c : V) (cv : Value) (b : Bool) (l : List (Str × V)), xs = [.ref a, c] ∧ (∀ u, RelV c u → u = cv) ∧ PySem.W.kitOne K (.ref D) cv = some b ∧ H d = some (.xd l) ∧ Q (.bl b) H
def mIsE (dec : Nat → Option Bool) (c : Nat) : Ev → Option D := fun _ => (dec c).map D.bl
end
end VI
set_option Elab.async false
set_option linter.all false
set_option maxRecDepth 100000
set_option autoImplicit false
namespace VI
open PySem PySem.Spec PySem.W PySem.Calls PyProof.Rows L2 NdefX He
section
variable {K : PySem.W.Frag} {file : Str} {d : XcD}
structure XcOk (K : PySem.W.Frag) (file : Str) (d : XcD) : Prop where
  gl : nsIn K mainGlobals d.name = some (some (.ref (ga K d.name)))
  ini : findIn K (.ref (ga K d.name)) "__init__" = some (some (.ref (ma K (ga K d.name) "__init__")))
  tyI : typeIn K (.ref (ma K (ga K d.name) "__init__")) = some (.type "function")
  exf : ∃ cc cda fd, ExF K file d.qual d.params d.body d.scope (ga K d.name) (ma K (ga K d.name) "__init__") cc cda fd
  xf : XfC K (ga K d.name)
  exc : ExcC K (ga K d.name)
  fs : ∀ f ∈ d.fs, findIn K (.ref (ga K d.name)) f = some none
theorem xcB_ok (h : xcB file K d = true) (e : xcW K d.name = d.val) : XcOk K file d := by
  unfold xcB at h
  simp only [Bool.and_eq_true, decide_eq_true_eq, List.all_eq_true] at h
  obtain ⟨h1, h2, h3, h4, h5, h6, h7, h8, h9, h10, h11, h12, h13, h14, h15, h16, h17, h18, h19, h20, h21⟩ := h
  have ox : OexC K (ga K d.name) := by
    refine ⟨?_, h7, h8, h9, h6⟩
    unfold xcCls at h4
    split at h4
    · rename_i dd cd sl hl
      split at h4
      · rename_i D bm k0 k1 k2 k3 n k5 hm hs
        simp only [Bool.and_eq_true, decide_eq_true_eq, Bool.not_eq_true'] at h4
        obtain ⟨rfl, rfl, q1, q2, q3⟩ := h4
        obtain ⟨nm, bs, mro, ns, qn, hd, sn, sub, ab, col, del⟩ := cd
        dsimp only at hm q1 q2
        subst hm q1 q2
        have hsl : sl = #[k0, k1, k2, k3, some (.builtin "ValueError.__new__"), k5] := by
          obtain ⟨l⟩ := sl
          simp only at hs
          rw [hs]
        subst hsl
        exact ⟨nm, qn, ns, bs, bm, sn, sub, ab, col, dd, k0, k1, k2, k3, k5, hl, q3⟩
      · cases h4
    · cases h4
  refine ⟨h1, h2, h5, ?_, ⟨h14, h15, h8, h16⟩, ⟨h14, h15, h8, h16, h17, h18, h19, h20⟩, h21⟩
  unfold xcFn at h3
  unfold xcW at e
  cases hl : K.lookup (ma K (ga K d.name) "__init__") with
  | none => rw [hl] at h3; cases h3
  | some o =>
    obtain ⟨oc, od, dt, osl⟩ := o
    rw [hl] at h3 e
    cases dt with
    | func fd =>
      simp only [Bool.and_eq_true, decide_eq_true_eq] at h3
      obtain ⟨q1, q2, q3, q4, q5⟩ := h3
      obtain ⟨n1, n2, n3, n4, n5, n6, n7, n8, n9, n10, n11, n12, n13, n14, n15⟩ := fd
      have e2 : (some (n1, n2, n3, n4, n5, n6, n7.map (·.1), n15) : XcW) = d.val := e
      unfold XcD.val at e2
      simp only [Option.some.injEq, Prod.mk.injEq] at e2
      obtain ⟨r1, r2, r3, r4, r5, r6, r7, r8⟩ := e2
      simp only at q1 q2 q3 q4 q5
      subst r1 r2 r3 r4 r5 r6 r8 q1 q2
      unfold xcCell at q5
      split at q5
      · rename_i y cc
        have hy : y = "__class__" := by simpa using r7
        subst hy
        split at q5
        · rename_i oc2 od2 C' sl2 hcc
          have hC : C' = ga K d.name := of_decide_eq_true q5
          subst hC
          unfold xcFile at q4
          split at q4
          · rename_i cda
            split at q4
            · rename_i oc3 od3 vs sl3 hcd
              split at q4
              · rename_i y tf hvs
                have hf : y = file := of_decide_eq_true q4
                subst hf
                exact ⟨cc, cda, _, ox, ⟨oc, od, osl, _, _, _, _, hl, rfl⟩, q3, ⟨_, _, _, hcc⟩, ⟨_, _, vs, _, tf, hcd, hvs⟩, h12, h13, h10, h11⟩
              · cases q4
            · cases q4
          · cases q4
        · cases q5
      · cases q5
    | _ => cases h3
end
end VI
set_option Elab.async false
set_option linter.all false
set_option maxRecDepth 100000
set_option autoImplicit false
namespace VI
open PySem L2
def XOut.toF : XOut → Option (D × Ev)
  | .rt d A => some (d, A)
  | .xc _ _ _ => none
def fOfX (g : List D → Option XOut) : List D → Option (D × Ev) := fun ds => (g ds).bind XOut.toF
theorem ar_T {n N : Nat} {m : SM} : Ar n (fOfX (runX n N m)) := fun ds r h => by
  unfold fOfX at h
  simp only [Option.bind_eq_some_iff] at h
  obtain ⟨o, h, _⟩ := h
  exact ar_runX ds o h
section
variable {P : Program} {w : World} {K : PySem.W.Frag} {mg : Str → Option Value} {base : Heap} {f : Addr} {fd : FuncData} {ps : List Str} {cl : Nat → Addr} {mu : List Nat} {n k : Nat} {g : List D → Option XOut}
theorem fn_of_x (F : FnOk P w K mg base (L2.CX P w) k f fd ps (SpX K cl mu n g)) : FnOk P w K mg base CX0 k f fd ps (SpF K cl mu n (fOfX g)) := by
  have im : ∀ vs H Q, SpF K cl mu n (fOfX g) vs H Q (fun _ _ _ => False) → SpX K cl mu n g vs H Q (fun _ _ _ => False) := fun vs H Q h => by
    obtain ⟨hl, B, ds, F, S, gd, d, A', e, q⟩ := h
    refine ⟨hl, B, ds, F, S, gd, .inl ⟨d, A', ?_, q⟩⟩
    unfold fOfX at e
    cases h : g ds with
    | none => rw [h] at e; cases e
    | some o =>
      rw [h] at e
      cases o with
      | rt d2 A2 => cases e; rfl
      | xc c fs A2 => cases e
  refine ⟨fun vs H Q E h => F.len vs H Q (fun _ _ _ => False) (im vs H Q h), fun A outer s H args us vs Q E hr e0 hb hv h => ?_⟩
  refine codeAny_mono (F.run A outer s H args us vs Q (fun _ _ _ => False) hr e0 hb hv (im vs H Q h)) fun r s' hq => ?_
  cases r with
  | ok fl => cases fl <;> exact hq
  | error e =>
    obtain ⟨_, _, _, _, _, _, _, _, _, _, _, _, z⟩ := hq
    exact z.elim
end
section
variable {X : Cx} {cl : Tb} {mu : List Nat} {e : Expr} {mx : Ev → Option XOut} {pos : Pos}
end
def decL : List (Nat × Bool) → Nat → Option Bool
  | [], _ => none
  | (k, b) :: l, c => if c = k then some b else decL l c
theorem decL_mem : ∀ {l : List (Nat × Bool)} {c : Nat} {b : Bool}, decL l c = some b → (c, b) ∈ l
  | [], _, _, h => by cases h
  | (k, b0) :: l, c, b, h => by
    unfold decL at h
    split at h
    · rename_i hc
      cases h; subst hc
      exact List.mem_cons_self
    · exact List.mem_cons_of_mem _ (decL_mem h)
theorem all_nil {α : Type} {p : α → Prop} : ∀ x ∈ ([] : List α), p x := fun _ z => nomatch z
theorem all_cons {α : Type} {p : α → Prop} {a : α} {l : List α} (h : p a) (t : ∀ x ∈ l, p x) : ∀ x ∈ a :: l, p x := fun x hx => by
  rcases List.mem_cons.mp hx with rfl | hx
  · exact h
  · exact t x hx
theorem decL_ok {p : Nat → Bool → Prop} {l : List (Nat × Bool)} (h : ∀ x ∈ l, p x.1 x.2) : ∀ c b, decL l c = some b → p c b := fun c b e => h (c, b) (decL_mem e)
def inL (l : List Nat) (c : Nat) : Bool := l.any fun k => decide (c = k)
theorem inL_ok {p : Nat → Prop} {l : List Nat} (h : ∀ x ∈ l, p x) : ∀ c, inL l c = true → p c := fun c e => by
  unfold inL at e
  obtain ⟨k, hk, e⟩ := List.any_eq_true.mp e
  have e : c = k := of_decide_eq_true e
  subst e
  exact h c hk
theorem dec_ex {K : PySem.W.Frag} {x y : Str} {b : Bool} (h : xsB K (x, y, b) = true) : PySem.W.exmOne K (.ref (He.ga K x)) (clV K y) = some b := by
  unfold xsB at h
  simp only [Bool.and_eq_true, decide_eq_true_eq] at h
  exact h.2
theorem dec_is {K : PySem.W.Frag} {x y : Str} {b : Bool} (h : xsB K (x, y, b) = true) : PySem.W.kitOne K (.ref (He.ga K x)) (clV K y) = some b := by
  unfold xsB at h
  simp only [Bool.and_eq_true, decide_eq_true_eq] at h
  exact h.1
theorem clV_mod {K : PySem.W.Frag} {x : Str} (h : (He.Fa.glo x).ok K = true) : clV K x = .ref (He.ga K x) := by
  have e := He.eqO_ok h
  unfold clV
  rw [e]
theorem clV_blt {K : PySem.W.Frag} {x : Str} (h : (He.Fa.free x).ok K = true) : clV K x = .type "ValueError" := by
  have e := He.eqO_ok h
  unfold clV
  rw [e]
theorem dec_exm {K : PySem.W.Frag} {x y : Str} {b : Bool} (h : xsB K (x, y, b) = true) (g : (He.Fa.glo y).ok K = true) : PySem.W.exmOne K (.ref (He.ga K x)) (.ref (He.ga K y)) = some b := by rw [← clV_mod g]; exact dec_ex h
theorem dec_ism {K : PySem.W.Frag} {x y : Str} {b : Bool} (h : xsB K (x, y, b) = true) (g : (He.Fa.glo y).ok K = true) : PySem.W.kitOne K (.ref (He.ga K x)) (.ref (He.ga K y)) = some b := by rw [← clV_mod g]; exact dec_is h
theorem dec_isv {K : PySem.W.Frag} {x y : Str} {b : Bool} (h : xsB K (x, y, b) = true) (g : (He.Fa.free y).ok K = true) : PySem.W.kitOne K (.ref (He.ga K x)) (.type "ValueError") = some b := by rw [← clV_blt g]; exact dec_is h
section
variable {X : Cx} {cl : Tb} {mu : List Nat} {x : Str} {cv : Value} {body suite : List Stmt} {b₀ : Stmt} {np pos pos' : Pos} {mb ms : SM} {dec : Nat → Option Bool}
end
theorem roomS {j k : Nat} {X : Cx} {a : Addr} {pn : List (Addr × Obj)} (hr : Room k X.A) (h : j ≤ k) : L2H.RoomH j (X.suite a pn).A :=
  ⟨by have := hr.dp; show X.A.depth + 3 * j + 5 < _; omega, by have := hr.un; show X.A.units + 16 * j + 200 < _; omega⟩
structure FnE (P : Program) (w : World) (K : PySem.W.Frag) (mg : Str → Option Value) (base : Heap) (k : Nat) (f : Addr) (fd : FuncData) (ps : List Str) (sp : Addr × Obj → Sp) : Prop where
  len : ∀ q vs H Q E, sp q vs H Q E → vs.length = ps.length
  run : ∀ (A : Around) (outer : List Env) (s : Shared) (H : Hp) (ar : Args) (us : List Value) (vs : List V) (Q : VK) (E : XK) (q : Addr × Obj), L2H.RoomH k A → L2H.PinOk outer H s q → Env0 P w K mg base A outer s H → BindsTo s fd ar (ps.zip us) → Vals vs us → sp q vs H Q E →
    codeAny (model P w) A (.call (.ref f) ar) (CR CX0 outer P w H s Q E) s
section
variable {P : Program} {w : World} {K : PySem.W.Frag} {mg : Str → Option Value} {base : Heap} {x qual : Str} {params : Arguments} {body : List Stmt} {scope : Scope} {dvs : List V} {kws : List (Str × V)} {f : Addr} {fd : FuncData} {cl : Nat → Addr}
theorem fn_ofE {N ps : List Str} {k : Nat} {sp : Addr × Obj → Sp} (Fd : FunD K x qual params body scope dvs kws f fd) (S : FnScope N ps scope) (len : ∀ q vs H Q E, sp q vs H Q E → vs.length = ps.length)
    (hbody : ∀ (cdv : Value) (A : Around) (outer : List Env) (s : Shared) (H : Hp) (vs : List V) (Q : VK) (E : XK) (q : Addr × Obj), L2H.RoomH k (A.deeper (PyProof.Rows.envOfC qual scope s.heap.objs.size f cdv)) → sp q vs H Q E →
      ∃ t, PSs (L2H.cxH CX0 P w K mg base N qual scope f cdv A outer s H E q) body t ∧ t { nx := fun _ H1 => Q .non H1, rt := Q } (L2.start N vs) H) : FnE P w K mg base (k + 1) f fd ps sp := by
  obtain ⟨oc, od, dV, kV, doc, pm, an, cdv, ct, osl, rfl, lk, hcd, _, _⟩ := Fd.ex
  refine ⟨len, fun A outer s H ar us vs Q E q hr hpin e0 hb rv hsp => ?_⟩
  have KX : K.In s.heap := PySem.W.Frag.In.keeps e0.mod.kin fun b o e => (e0.bs b o e).1
  have nl : s.heap.NoLimit := PySem.Heap.NoLimit.keeps e0.mod.nolimit fun b o e => (e0.bs b o e).1
  have kinds : ∀ y ∈ ps.zip us, scope.names.lookup y.1 = some .local ∨ (scope.names.lookup y.1 = some .cell ∧ ((cellsFrom (s.heap.objs.size + 1) scope.names []).lookup y.1).isSome = true) := fun y hy => by
    rcases S.par y.1 (List.of_mem_zip (a := y.1) (b := y.2) hy).1 with z | z
    · exact .inl z
    · exact .inr ⟨z, PySem.W.cellsFrom_some _ _ _ (.inl z)⟩
  refine codeAny_call_function hr.depth (KX _ _ lk) rfl S.co S.gen rfl (PySem.W.codeRec_of KX hcd) (hb _ _ _ _ ?_)
  refine wpAny_newFunctionEnv_cells S.kind kinds fun env he s1 ic => ?_
  subst he
  refine ⟨nl.keeps ic.toInCall.keep, codeAny_func ?_⟩
  obtain ⟨t, ht, hq⟩ := hbody cdv A outer s H vs Q E q (hr.deeper _) hsp
  have I : Inv (L2H.cxH CX0 P w K mg base N qual scope f cdv A outer s H E q) [] (L2.start N vs) H s1 := L2H.inv_startH S hpin e0 (len q _ _ _ _ hsp) rv ic
  refine wpAny_mono (ht.run [] s1 (L2.start N vs) H _ I hq) (fun fl s2 hs => ?_) fun e s2 hs => hs
  have fin : ∀ {σ2 : L2.St} {H2 : Hp} {v : V} {u : Value}, Inv (L2H.cxH CX0 P w K mg base N qual scope f cdv A outer s H E q) [] σ2 H2 s2 → RelV v u → Q v H2 → CE outer P w H s Q u s2 :=
    fun {σ2 H2 v u} J ru z => ⟨v, H2, J.os, J.bare, J.base, J.hok, ru, z⟩
  cases fl with
  | ret u => obtain ⟨v, σ2, H2, J, ru, z⟩ := hs; exact fin J ru z
  | next => obtain ⟨σ2, H2, J, z⟩ := hs; exact fin (v := V.non) (u := Value.none) J rfl z
  | brk => obtain ⟨_, _, _, z⟩ := hs; exact z.elim
  | cont => obtain ⟨_, _, _, z⟩ := hs; exact z.elim
def runE (N : Nat) (m : Nat → SM) (c : Nat) : Option D := match m c (List.replicate N none) with
  | some (.rt d _) => some d
  | some (.nx _) => some .non
  | _ => none
def SpE (K : PySem.W.Frag) (cl : Nat → Addr) (g : Nat → Option D) : Addr × Obj → Sp := fun q vs H Q _ =>
  vs = [.ref q.1] ∧ ∃ c fs d B r, Zc (.ref (cl c)) (some d) q.2 ∧ (∃ vs, q.2.data = .fields vs) ∧ BLe B H ∧ TabC cl H ∧ FldsAt K cl B d fs ∧ g c = some r ∧ ∀ v B' H' fp, New B H B' H' → Rep K cl B' H' r v fp → Fresh H B' fp → Q v H'
theorem good_e {a d : Addr} {fs : List (Str × D)} {B H : Hp} {N : List Str} {W : WX} (t : TabC cl H) (s : BLe B H) (hN : 0 < N.length) (fa : FldsAt K cl B d fs) :
    Good K ⟨cl, some ⟨0, a, d, fs⟩, W⟩ ⟨H, B, [], [(0, .ref a)], []⟩ B H (L2.start N [.ref a]) (List.replicate N.length none) (fun _ => []) where
  sub := s
  len := by unfold L2.start; simp; omega
  at_ := fun i d e => by
    rw [List.getElem?_replicate] at e
    split at e <;> cases e
  emp := fun _ _ => rfl
  nd := fun _ => List.nodup_nil
  dis := fun _ _ _ _ z => nomatch z
  nb := fun _ _ z => nomatch z
  le0 := BEx.refl B
  fr := fun a o _ e _ => .inl e
  tk := TKC.refl t
  own := fun _ _ z => nomatch z
  bnew := fun a e => .inl e
  keep := fun p hp => by
    have e : p = (0, V.ref a) := by simpa using hp
    subst e
    rfl
  lkd := fun _ z => nomatch z
  hx := fun z e => by cases e; exact ⟨List.mem_cons_self, fa⟩
theorem fn_okC {m : Nat → SM} {N : List Str} {y : Str} {k : Nat} (Fd : FunD K x qual params body scope dvs kws f fd) (S : FnScope N [y] scope)
    (hb : ∀ (cdv : Value) (A : Around) (outer : List Env) (s : Shared) (H : Hp) (E : XK) (a : Addr) (oe : Obj) (d : Addr) (c : Nat) (fs : List (Str × D)), L2H.RoomH k (A.deeper (PyProof.Rows.envOfC qual scope s.heap.objs.size f cdv)) → Zc (.ref (cl c)) (some d) oe → (∃ vs, oe.data = .fields vs) →
      VSs (L2H.cxH CX0 P w K mg base N qual scope f cdv A outer s H E (a, oe)) ⟨cl, some ⟨0, a, d, fs⟩, fun _ _ _ _ => True⟩ [0] body (m c)) :
    FnE P w K mg base (k + 1) f fd [y] (SpE K cl (runE N.length m)) := by
  have hN : 0 < N.length := by
    have e := S.pre
    cases N with
    | nil => simp at e
    | cons => simp
  refine fn_ofE Fd S (fun q vs H Q E h => by rw [h.1]; rfl) fun cdv A outer s H vs Q E q hr h => ?_
  obtain ⟨rfl, c, fs, d, B, r0, hz, hd, sub, tt_, fa, hg, hq⟩ := h
  obtain ⟨a, oe⟩ := q
  obtain ⟨t, p, r⟩ := hb cdv A outer s H E a oe d c fs hr hz hd
  refine ⟨t, p, ?_⟩
  have news : ∀ {σ2 : L2.St} {B2 H2 : Hp} {A2 : Ev} {F2 : Nat → List Addr} {tbl : Tb}, Good K tbl ⟨H, B, [], [(0, .ref a)], []⟩ B2 H2 σ2 A2 F2 → New B H B2 H2 := fun g => ⟨{ toTK := g.tk.toTK, keep := fun a o nt e => (g.fr a o nt e (fun z => nomatch z)).elim id fun ⟨p, hp, _⟩ => (nomatch hp) }, g.le0, g.sub, fun a e => (g.bnew a e).imp id fun h => h.elim id fun z => (nomatch z)⟩
  unfold runE at hg
  split at hg
  · rename_i d1 A1 hm
    cases hg
    exact r _ _ _ B H _ (fun p hp => by have e : p = (0, V.ref a) := (by simpa using hp); subst e; exact List.mem_cons_self) (good_e tt_ sub hN fa) _ hm _ fun σ2 B2 H2 F2 v fp g2 rp ow =>
      hq v B2 H2 fp (news g2) rp ⟨ow.nd, fun a z => (ow.own a z).resolve_left (fun z => nomatch z), ow.nb⟩
  · rename_i A1 hm
    cases hg
    exact r _ _ _ B H _ (fun p hp => by have e : p = (0, V.ref a) := (by simpa using hp); subst e; exact List.mem_cons_self) (good_e tt_ sub hN fa) _ hm _ fun σ2 B2 H2 F2 g2 =>
      hq .non B2 H2 [] (news g2) rep_non Fresh.nil
  · cases hg
end
section
variable {X : Cx} {k : Nat} {f : Addr} {fd : FuncData} {ps : List Str} {sp : Addr × Obj → Sp} {x : Str} {p pos : Pos} {e : Expr} {es : List Expr} {t : TA} {q : Addr × Obj}
def tCallE (sp : Addr × Obj → Sp) (q : Addr × Obj) (t : TA) : TE := fun σ H Q => t σ H fun vs H1 => sp q vs H1 Q (fun _ _ _ => False)
theorem pe_callE (Fn : FnE X.prog X.w X.K X.mg X.base k f fd ps sp) (hr : L2H.RoomH k X.A) (hq : q ∈ X.pn) (hg : Gl X x) (hm : X.mg x = some (.ref f)) (hk : PySem.W.keepIn X.K (.ref f) = true) (hb : Binds X.K fd ps [])
    (ha : PA X (e :: es) t) (hdb : (x == ("__debug__" : Str)) = false := by decide) (he : starEach (e :: es) X.env = (false, eval e X.env) :: starEach es X.env := by rfl) (hpl : (backTo pos (starEach es X.env)).any (·.1) = false := by rfl) :
    PE X (.Call (.Name x p) (e :: es) [] pos) (tCallE sp q t) := by
  refine ⟨fun pins s σ H Q I h => wpAny_Call_Name_kw (ld_glob I hg hm (PySem.W.callWith_K (h₀ := X.base) I.ok.mod.kin hk (thn (ha.run pos pins s σ H _ I h) fun us s1 ⟨vs, H1, I1, rv, hsp⟩ => ⟨I1.kIn, ?_⟩) he hpl) hdb)⟩
  have hl : us.length = ps.length := by rw [← rv.length]; exact Fn.len _ _ _ _ _ hsp
  have b := hb s1 us I1.kIn (by rw [List.append_nil]; exact hl)
  rw [List.append_nil] at b
  have P1 := I1.pin q (List.mem_append_left _ hq)
  have pin : L2H.PinOk X.stack H1 s1 q := ⟨P1.1, P1.2.1, fun hm => (List.mem_cons.mp (I1.stkSub q.1 hm)).elim P1.2.2.1 P1.2.2.2.1, P1.2.2.2.2⟩
  show wpAny _ _ (call (.ref f) us) _ _ _
  refine wpAny_call (codeAny_mono (Fn.run X.A X.stack s1 H1 ⟨us, []⟩ us vs Q _ q hr pin I1.env0 b rv hsp) fun r s2 h2 => ?_)
  cases r with
  | error e => exact h2.elim
  | ok fl =>
    cases fl with
    | ret u => exact I1.after h2
    | next => exact h2.elim
    | brk => exact h2.elim
    | cont => exact h2.elim
end
section
variable {X : Cx} {cl : Tb} {k : Nat} {f : Addr} {fd : FuncData} {ps : List Str} {x : Str} {p pos : Pos} {e : Expr} {es : List Expr} {ms : Ev → Option (List D)} {g : List D → Option (D × Ev)} {q : Addr × Obj}
end
section
variable {X : Cx} {cl : Nat → Addr} {W : WX} {k i c : Nat} {f a d : Addr} {oe : Obj} {fs : List (Str × D)} {fd : FuncData} {x n y : Str} {p p1 pos : Pos} {g : Nat → Option D}
def mCls (g : Nat → Option D) (c : Nat) : Ev → Option D := fun _ => g c
theorem ev_callC (Fn : FnE X.prog X.w X.K X.mg X.base k f fd [y] (SpE X.K cl g)) (hr : L2H.RoomH k X.A) (hq : (a, oe) ∈ X.pn) (hg : Gl X x) (hm : X.mg x = some (.ref f)) (hk : PySem.W.keepIn X.K (.ref f) = true) (hb : Binds X.K fd [y] [])
    (hz : Zc (.ref (cl c)) (some d) oe) (hd : ∃ vs, oe.data = .fields vs) (hN : X.N[i]? = some n) (hv : Vis X.env.scope n)
    (hdb : (x == ("__debug__" : Str)) = false := by decide) (hdb2 : (n == ("__debug__" : Str)) = false := by decide) (hcd : (n == ("__classdict__" : Str)) = false := by decide)
    (he : starEach [.Name n p1] X.env = (false, eval (.Name n p1) X.env) :: starEach [] X.env := by rfl) (hpl : (backTo pos (starEach [] X.env)).any (·.1) = false := by rfl) :
    EvD X ⟨cl, some ⟨i, a, d, fs⟩, W⟩ (.Call (.Name x p) [.Name n p1] [] pos) (mCls g c) := by
  refine ⟨_, pe_callE (q := (a, oe)) Fn hr hq hg hm hk hb (pa_cons (pe_var (i := i) hN hv hdb2 hcd) pa_nil) hdb he hpl, fun σ A B H R r h Q z => ?_⟩
  obtain ⟨h1, fa⟩ := R.hx ⟨i, a, d, fs⟩ rfl
  exact ⟨.ref a, h1, rfl, c, fs, d, B, r, hz, hd, R.sub, R.tab.tk (TK.refl _), fa, h, fun v B' H' fp n r f => z v B' H' fp n r f⟩
theorem call_isP {D : Addr} (C : ExcC X.K D) (hq : (a, oe) ∈ X.pn) (hz : Zc (.ref D) (some d) oe) (hf : ∃ vs, oe.data = .fields vs) : CallR X (.builtin "isinstance") (rIsD X.K D a d) := by
  intro pins s σ H xs us Q I r h
  obtain ⟨c, cv, b, l, rfl, hcv, e, hd, z⟩ := h
  cases r with
  | cons rx rr =>
    cases rr with
    | cons rt rr =>
      cases rr
      cases rx
      have ec := hcv _ rt
      subst ec
      obtain ⟨hget, _⟩ := I.pin (a, oe) (List.mem_append_left _ hq)
      obtain ⟨vs, hv⟩ := hf
      have hx : ObjOk X.prog X.w H s.heap d (.xd l) := I.hok d _ hd
      obtain ⟨mA, hns, hr⟩ := hx
      obtain ⟨od, ho, hl⟩ := lookIn_ns hns
      have J : PySem.W.InstAt s.heap a oe D (some od) := ⟨hget, hz.1, by unfold PySem.W.notCls; rw [hv] <;> rfl, by rw [hz.2]; exact ho⟩
      have hcl : (PySem.W.clsIn X.K D).isSome = true := by
        obtain ⟨cd, hc, _⟩ := PySem.W.any_some C.hd
        rw [hc] <;> rfl
      exact PySem.W.kia_one (PySem.W.kitx_exc hcl C.hg C.hk C.hs C.ha C.hn C.ht C.hm) I.kIn J e (fun z => nomatch z) fun tk => ⟨.bl b, H, I.kept (t' := tk) fun _ _ z => z, rfl, z⟩
theorem ev_isP {cv : Value} {u : V} {np p2 : Pos} (dec : Nat → Option Bool) (hdec : ∀ c b, dec c = some b → ExcC X.K (cl c) ∧ PySem.W.kitOne X.K (.ref (cl c)) cv = some b) (hq : (a, oe) ∈ X.pn) (hz : Zc (.ref (cl c)) (some d) oe) (hd : ∃ vs, oe.data = .fields vs) (hN : X.N[i]? = some n) (hv : Vis X.env.scope n)
    (hg : Gl X "isinstance") (hm : X.mg "isinstance" = none) (hbt : bootBuiltins "isinstance" = some (.builtin "isinstance")) (hy : PE X (.Name y p2) (tC u)) (hu : ∀ w, RelV u w → w = cv)
    (hdb : (n == ("__debug__" : Str)) = false := by decide) (hcd : (n == ("__classdict__" : Str)) = false := by decide) :
    EvV X ⟨cl, some ⟨i, a, d, fs⟩, W⟩ (.Call (.Name "isinstance" np) [.Name n p1, .Name y p2] [] pos) (mIsE dec c) := by
  cases h : dec c with
  | none =>
    exact ⟨fun _ _ _ => False, ⟨fun _ _ _ _ _ _ z => z.elim⟩, fun σ A B H R v hm Q q => by unfold mIsE at hm; rw [h] at hm; cases hm⟩
  | some b =>
    obtain ⟨C, hk⟩ := hdec c b h
    refine ⟨_, pe_callB (call_isP C hq hz hd) hg hm hbt (pa_cons (pe_var (i := i) hN hv hdb hcd) (pa_cons hy pa_nil)), fun σ A B H R v hm Q q => ?_⟩
    unfold mIsE at hm
    rw [h] at hm
    cases hm
    obtain ⟨h1, l, h2, _⟩ := R.hx ⟨i, a, d, fs⟩ rfl
    exact ⟨.ref a, h1, u, cv, b, l, rfl, hu, hk, R.sub.xd _ _ h2, q (.bl b) B H [] (New.refl R.sub) (by simp only [Rep]; exact ⟨trivial, trivial⟩)⟩
end
section
open PySem.W PySem.Spec NdefX He
variable {P : Program} {w : World} {K : PySem.W.Frag} {mg : Str → Option Value} {base : Heap} {file : Str} {d : XcD} {N : List Str} {self x1 x2 x3 f1 f2 f3 m : Str} {j : Nat} {p0 p1 pa pc pos pe s1 s2 s3 s4 t1 t2 t3 t4 u1 u2 u3 u4 : Pos} {ar : Arg} {pl : Env → Sem Bool}
theorem exk1 (o : XcOk K file d) (pg : PgOk P file) (hmg : mg "super" = none)
    (hb0 : d.body = [.Expr (.Call (.Attribute (.Call (.Name "super" p0) [] [] p1) "__init__" pa) [.Constant (.str m) j pc] [] pos) pe, .Assign [.Attribute (.Name self s1) f1 s2] (.Name x1 s3) s4])
    (hfs : d.fs = [f1]) (S : NScope N [self, x1] ["__class__"] d.scope) (hks : d.scope.names.lookup ("super" : Str) = some .globalImplicit) (hp : (d.params.posonlyargs ++ d.params.args).head? = some ar) (har : ar.arg = self)
    (h0 : N[0]? = some self) (h1 : N[1]? = some x1) (v0 : d.scope.names.lookup self = some .local) (v1 : d.scope.names.lookup x1 = some .local)
    (hbi : ∀ (doc pm ct : Value) (an : Option Addr) (cda cc : Addr) (us : List Value), us.length = 2 → bindArgs (fnX "__init__" d.qual d.params d.body d.scope [("__class__", cc)] .none .none doc pm an (.ref cda) ct) ⟨us, []⟩ = pure ([self, x1].zip us))
    (he : ∀ env : Env, eval (.Call (.Attribute (.Call (.Name "super" p0) [] [] p1) "__init__" pa) [.Constant (.str m) j pc] [] pos) env = (do
      let ov ← attributeBase (.Call (.Name "super" p0) [] [] p1) "__init__" env (eval (.Call (.Name "super" p0) [] [] p1) env)
      standAt pa.atName
      let (f, first) ← holding [ov] (getMethod ov "__init__" (pl env))
      callWith pos f first (backTo pos (starEach [.Constant (.str m) j pc] env)) []))
    (d0 : (self == ("__debug__" : Str)) = false := by decide) (d1 : (x1 == ("__debug__" : Str)) = false := by decide) (c0 : (self == ("__classdict__" : Str)) = false := by decide) (c1 : (x1 == ("__classdict__" : Str)) = false := by decide) :
    ExK P w K mg base (ga K d.name) [f1] 1 := by
  obtain ⟨cc, cda, fd, F⟩ := o.exf
  refine ⟨F.ox, _, fd, [self, x1], o.ini, o.tyI, ?_, ?_⟩
  · exact exinit_ok (k := 0) (ar := ar) F pg hb0 S rfl hks hp (by rw [har]; rfl) hmg (asg1 F.ox h0 h1 v0 v1 (o.fs f1 (by rw [hfs]; exact List.mem_cons_self)) d0 d1 c0 c1) he
  · obtain ⟨oc, od, osl, doc, pm, an, ct, lk, efd⟩ := F.fn
    rw [efd]
    exact Binds.all fun us hl => hbi _ _ _ _ _ _ us hl
theorem exk3 (o : XcOk K file d) (pg : PgOk P file) (hmg : mg "super" = none)
    (hb0 : d.body = [.Expr (.Call (.Attribute (.Call (.Name "super" p0) [] [] p1) "__init__" pa) [.Constant (.str m) j pc] [] pos) pe, .Assign [.Attribute (.Name self s1) f1 s2] (.Name x1 s3) s4, .Assign [.Attribute (.Name self t1) f2 t2] (.Name x2 t3) t4, .Assign [.Attribute (.Name self u1) f3 u2] (.Name x3 u3) u4])
    (hfs : d.fs = [f1, f2, f3]) (S : NScope N [self, x1, x2, x3] ["__class__"] d.scope) (hks : d.scope.names.lookup ("super" : Str) = some .globalImplicit) (hp : (d.params.posonlyargs ++ d.params.args).head? = some ar) (har : ar.arg = self)
    (h0 : N[0]? = some self) (h1 : N[1]? = some x1) (h2 : N[2]? = some x2) (h3 : N[3]? = some x3) (v0 : d.scope.names.lookup self = some .local) (v1 : d.scope.names.lookup x1 = some .local) (v2 : d.scope.names.lookup x2 = some .local) (v3 : d.scope.names.lookup x3 = some .local)
    (hbi : ∀ (doc pm ct : Value) (an : Option Addr) (cda cc : Addr) (us : List Value), us.length = 4 → bindArgs (fnX "__init__" d.qual d.params d.body d.scope [("__class__", cc)] .none .none doc pm an (.ref cda) ct) ⟨us, []⟩ = pure ([self, x1, x2, x3].zip us))
    (he : ∀ env : Env, eval (.Call (.Attribute (.Call (.Name "super" p0) [] [] p1) "__init__" pa) [.Constant (.str m) j pc] [] pos) env = (do
      let ov ← attributeBase (.Call (.Name "super" p0) [] [] p1) "__init__" env (eval (.Call (.Name "super" p0) [] [] p1) env)
      standAt pa.atName
      let (f, first) ← holding [ov] (getMethod ov "__init__" (pl env))
      callWith pos f first (backTo pos (starEach [.Constant (.str m) j pc] env)) []))
    (d0 : (self == ("__debug__" : Str)) = false := by decide) (d1 : (x1 == ("__debug__" : Str)) = false := by decide) (d2 : (x2 == ("__debug__" : Str)) = false := by decide) (d3 : (x3 == ("__debug__" : Str)) = false := by decide)
    (c0 : (self == ("__classdict__" : Str)) = false := by decide) (c1 : (x1 == ("__classdict__" : Str)) = false := by decide) (c2 : (x2 == ("__classdict__" : Str)) = false := by decide) (c3 : (x3 == ("__classdict__" : Str)) = false := by decide) :
    ExK P w K mg base (ga K d.name) [f1, f2, f3] 1 := by
  obtain ⟨cc, cda, fd, F⟩ := o.exf
  refine ⟨F.ox, _, fd, [self, x1, x2, x3], o.ini, o.tyI, ?_, ?_⟩
  · exact exinit_ok (k := 0) (ar := ar) F pg hb0 S rfl hks hp (by rw [har]; rfl) hmg (asg3 F.ox h0 h1 h2 h3 v0 v1 v2 v3 (o.fs f1 (by rw [hfs]; simp)) (o.fs f2 (by rw [hfs]; simp)) (o.fs f3 (by rw [hfs]; simp)) d0 d1 d2 d3 c0 c1 c2 c3) he
  · obtain ⟨oc, od, osl, doc, pm, an, ct, lk, efd⟩ := F.fn
    rw [efd]
    exact Binds.all fun us hl => hbi _ _ _ _ _ _ us hl
end
end VI
set_option Elab.async false
set_option linter.all false
set_option maxRecDepth 100000
set_option autoImplicit false
namespace VI
open PySem L2
inductive XR where
  | rt (d : D)
  | xc (c : Nat) (fs : List (Str × D))
def XR.out (A : Ev) : XR → XOut
  | .rt d => .rt d A
  | .xc c fs => .xc c fs A
def XOut.toXR : XOut → XR
  | .rt d _ => .rt d
  | .xc c fs _ => .xc c fs
def XR.clean : XR → Bool
  | .rt d => d.clean
  | .xc _ fs => fs.all fun p => p.2.clean
section
variable {A : Ev} {d : D} {c : Nat} {fs : List (Str × D)}
@[simp] theorem xr_out_rt : XR.out A (.rt d) = .rt d A := (rfl)
@[simp] theorem xr_out_xc : XR.out A (.xc c fs) = .xc c fs A := (rfl)
@[simp] theorem xr_clean_rt : XR.clean (.rt d) = d.clean := (rfl)
@[simp] theorem xr_clean_xc : XR.clean (.xc c fs) = fs.all fun p => p.2.clean := (rfl)
@[simp] theorem xout_clean {o : XOut} : o.clean = o.toXR.clean := by cases o <;> rfl
@[simp] theorem xout_at {o : XOut} : o.at_ A = o.toXR.out A := by cases o <;> rfl
@[simp] theorem sRaise_run {c : Nat} {fs : List Str} {ms : Ev → Option (List D)} : sRaise c fs ms A = (ms A).bind fun ds => if D.plainL ds = true ∧ ds.length = fs.length then some (.xc c (fs.zip ds) A) else none := (rfl)
def asgX (i : Nat) : XOut → Option SOut
  | .rt d A => if i < A.length then some (.nx (A.set i (some d))) else none
  | .xc c fs A => some (.xc c fs A)
@[simp] theorem asgX_rt {i : Nat} : asgX i (.rt d A) = if i < A.length then some (.nx (A.set i (some d))) else none := (rfl)
@[simp] theorem asgX_xc {i : Nat} : asgX i (.xc c fs A) = some (.xc c fs A) := (rfl)
@[simp] theorem sAsgX_run {i : Nat} {mx : Ev → Option XOut} : sAsgX i mx A = (mx A).bind (asgX i) := by
  unfold sAsgX
  cases mx A with
  | none => rfl
  | some r => cases r <;> rfl
@[simp] theorem andThen_xc {m : SM} : andThen (some (.xc c fs A)) m = some (.xc c fs A) := (rfl)
@[simp] theorem kOut_xc {is : List Nat} : kOut is (some (.xc c fs A)) = some (.xc c fs A) := (rfl)
@[simp] theorem decL_nil : decL [] c = none := (rfl)
@[simp] theorem decL_cons {k : Nat} {b : Bool} {l : List (Nat × Bool)} : decL ((k, b) :: l) c = if c = k then some b else decL l c := (rfl)
@[simp] theorem inL_nil : inL [] c = false := (rfl)
@[simp] theorem inL_cons {k : Nat} {l : List Nat} : inL (k :: l) c = (decide (c = k) || inL l c) := (rfl)
@[simp] theorem mIsE_run {dec : Nat → Option Bool} : mIsE dec c A = (dec c).map D.bl := (rfl)
@[simp] theorem mFx_run {ok : Nat → Bool} {f : Str} : mFx ok c fs f A = if ok c = true then fs.lookup f else none := (rfl)
@[simp] theorem mCls_run {g : Nat → Option D} : mCls g c A = g c := (rfl)
def tryO (i : Nat) (dec : Nat → Option Bool) (ms : Nat → List (Str × D) → SM) : Option SOut → Option SOut
  | some (.xc c fs A') => match dec c with
    | some true => if i < A'.length then (ms c fs (A'.set i none)).bind (endTry i) else none
    | some false => some (.xc c fs A')
    | none => none
  | r => r
@[simp] theorem sTry_run {i : Nat} {dec : Nat → Option Bool} {mb : SM} {ms : Nat → List (Str × D) → SM} : sTry i dec mb ms A = tryO i dec ms (mb A) := by
  unfold sTry tryO
  cases mb A with
  | none => rfl
  | some o => cases o <;> rfl
section
variable {i : Nat} {dec : Nat → Option Bool} {ms : Nat → List (Str × D) → SM}
@[simp] theorem tryO_nx : tryO i dec ms (some (.nx A)) = some (.nx A) := (rfl)
@[simp] theorem tryO_bk : tryO i dec ms (some (.bk A)) = some (.bk A) := (rfl)
@[simp] theorem tryO_ct : tryO i dec ms (some (.ct A)) = some (.ct A) := (rfl)
@[simp] theorem tryO_rt : tryO i dec ms (some (.rt d A)) = some (.rt d A) := (rfl)
@[simp] theorem tryO_none : tryO i dec ms none = none := (rfl)
@[simp] theorem tryO_xc : tryO i dec ms (some (.xc c fs A)) = (dec c).bind fun b => if b = true then (if i < A.length then (ms c fs (A.set i none)).bind (endTry i) else none) else some (.xc c fs A) := by
  show (match dec c with
    | some true => if i < A.length then (ms c fs (A.set i none)).bind (endTry i) else none
    | some false => some (.xc c fs A)
    | none => none) = _
  cases dec c with
  | none => rfl
  | some b => cases b <;> rfl
@[simp] theorem tryO_ite {p : Prop} [Decidable p] {a b : Option SOut} : tryO i dec ms (if p then a else b) = if p then tryO i dec ms a else tryO i dec ms b := by split <;> rfl
end
@[simp] theorem endTry_nx {i : Nat} : endTry i (.nx A) = some (.nx (A.set i none)) := (rfl)
@[simp] theorem endTry_bk {i : Nat} : endTry i (.bk A) = some (.bk (A.set i none)) := (rfl)
@[simp] theorem endTry_ct {i : Nat} : endTry i (.ct A) = some (.ct (A.set i none)) := (rfl)
@[simp] theorem endTry_rt {i : Nat} : endTry i (.rt d A) = some (.rt d (A.set i none)) := (rfl)
section
variable {dec : Nat → Option Bool} {ms : SM}
end
@[simp] theorem outV_xc : outV (some (.xc c fs A)) = none := (rfl)
theorem fOfX_run {n N : Nat} {m : SM} {ds : List D} (h : ds.length = n) : fOfX (runX n N m) ds = outR (m (env0 n N ds)) := by
  unfold fOfX runX env0
  rw [if_pos h]
  generalize m _ = o
  cases o with
  | none => rfl
  | some o => cases o <;> rfl
theorem apT_run {n N : Nat} {m : SM} {ds : List D} {r : D} (h : ds.length = n) (hr : outV (m (env0 n N (D.frzL ds))) = some r) (hc : D.plainL ds = true ∨ r.clean = true) : ap (fOfX (runX n N m)) ds = some r := by
  unfold ap
  rw [fOfX_run (by rw [frzL_len]; exact h)]
  obtain ⟨A, hA⟩ := outV_some hr
  rw [hA]; simp only [Option.bind_some]; rw [if_pos hc]
end
end VI
set_option Elab.async false
set_option linter.all false
set_option maxRecDepth 100000
set_option autoImplicit false
namespace VI
open PySem L2 PyProof.Rows
section
variable {X : Cx} {cl : Tb} {a b c d : Expr} {ma mb mc md : Ev → Option D} {ta tb tc td : TE} {pos : Pos} {o1 o2 o3 : CmpOp} {r1 r2 r3 : R2} {g1 g2 g3 : D → D → Option D}
end
section
variable {X : Cx} {cl : Tb} {mu : List Nat} {a b : Expr} {m1 : Ev → Option (D × Ev)} {mb : Ev → Option D} {pos : Pos}
end
section
variable {K : PySem.W.Frag} {cl : Nat → Addr} {B H : Hp}
end
end VI
set_option Elab.async false
set_option linter.all false
set_option maxRecDepth 100000
set_option autoImplicit false
namespace VI
open PySem L2
section
variable {P : Program} {w : World} {K : PySem.W.Frag} {mg : Str → Option Value} {base : Heap} {x qual : Str} {params : Arguments} {body : List Stmt} {scope : Scope} {dvs : List V} {kws : List (Str × V)} {f : Addr} {fd : FuncData} {cl : Nat → Addr}
end
section
variable {X : Cx} {cl : Tb} {mu : List Nat} {kg kh : Nat} {fg fh : Addr} {dg dh : FuncData} {pg ph : List Str} {xg xh x y : Str} {gp hp xp yp ip op rp : Pos} {e : Expr} {es : List Expr} {ms : Ev → Option (List D)} {h : List D → Option Ev} {g : List D → Option (D × Ev)} {ix iy : Nat}
end
end VI
set_option Elab.async false
set_option linter.all false
set_option maxRecDepth 100000
set_option autoImplicit false
set_option maxHeartbeats 2000000
namespace L2
open PySem PySem.Spec PyProof.Rows
section
variable {X : Cx} {pins : List (Addr × Obj)} {σ : List (Option V)} {H : Hp} {s : Shared}
end
end L2
namespace L2H
open PySem PySem.Spec PyProof.Rows L2 HotX
structure Again (X : Cx) (a T : Addr) (oe oT : Obj) (cls : Value) (d : Option Addr) (pn : List (Addr × Obj)) : Prop where
  z : Zc cls d oe
  dat : ∃ vs, oe.data = .fields vs ∧ vs[1]? = some (.ref T)
  tr : ∃ ts, oT.data = .fields ts ∧ ts[3]? = some .none
  ne : T ≠ a
  a0 : X.s_0.heap.get? a = none
  t0 : X.s_0.heap.get? T = none
  mem : (T, oT) ∈ pn
  sub : ∀ p ∈ X.pn, p ∈ pn ∧ p.1 ≠ a ∧ p.1 ≠ T
section
variable {X : Cx} {x : Str} {c : Value} {body suite : List Stmt} {b₀ : Stmt} {np pos pos' : Pos} {tb : WX → TS} {Wout : WX} {a T : Addr} {oe oT : Obj} {cls : Value} {d : Option Addr} {pn : List (Addr × Obj)}
end
end L2H
set_option Elab.async false
set_option linter.all false
set_option maxRecDepth 100000
set_option autoImplicit false
set_option maxHeartbeats 2000000
namespace L2H
open PySem PySem.Spec PyProof.Rows L2 HotX
section
variable {X : Cx} {x : Str} {c : Value} {body suite : List Stmt} {b₀ : Stmt} {np pos pos' : Pos} {tb : WX → TS} {ts : Addr → Value → Option Addr → TS} {Wout : WX}
end
end L2H
set_option Elab.async false
set_option linter.all false
set_option maxRecDepth 100000
set_option autoImplicit false
namespace VI
open PySem L2
section
variable {X : Cx} {cl : Tb} {mu : List Nat} {x : Str} {cv : Value} {body : List Stmt} {b₀ : Stmt} {np pos pos' rp : Pos} {mb ms : SM} {dec : Nat → Option Bool}
end
section
variable {A A2 : Ev} {c : Nat} {fs : List (Str × D)} {d : D} {dec : Nat → Option Bool} {ms : SM}
end
end VI
set_option Elab.async false
set_option linter.all false
set_option maxRecDepth 100000
set_option autoImplicit false
namespace VI
open PySem L2
section
variable {X : Cx} {cl : Tb} {mu : List Nat} {o e : Expr} {p : Pl} {me : Ev → Option (D × Ev)} {pos pos' : Pos}
end
end VI
set_option Elab.async false
set_option linter.all false
set_option maxRecDepth 100000
set_option autoImplicit false
namespace VI
open PySem L2
end VI
set_option Elab.async false
set_option linter.all false
set_option maxRecDepth 100000
set_option autoImplicit false
namespace VI
open PySem L2
end VI
set_option Elab.async false
set_option linter.all false
set_option maxRecDepth 100000
set_option autoImplicit false
namespace VI
open PySem L2
section
variable {enc : Line → D} {T : Str → Int} {t : Int}
end
section
variable {α β : Type} {g : D → Ev → Option Ev} {mb : SM} {enc : α → D} {xs : List α} {A : Ev} {o : Option SOut}
end
section
variable {L : LogS} {b c d e f : Bool} {ts : List Str}
end
end VI
set_option Elab.async false
set_option linter.all false
set_option maxRecDepth 100000
set_option autoImplicit false
namespace VI
open PySem L2
section
variable {N : Net} {L : LogS} {lo hi : Str → Int} {F : Str → Int} {fs gs : List (Str × Str)} {b c d e q : Bool} {cs : D} {s : Str}
end
end VI
set_option Elab.async false
set_option linter.all false
set_option maxRecDepth 100000
set_option autoImplicit false
namespace VI
open PySem PySem.Spec PyProof.Rows L2 He
def TabAt (K : PySem.W.Frag) (w : World) (mg : Str → Option Value) (x : Str) (kvs : List (Str × Int)) : Prop :=
  ∃ a es n, mg x = some (.ref a) ∧ KDict K w a es n ∧ ∀ z : Str, ∃ r, PySem.W.nsIn K a z = some r ∧ match kvs.lookup z with
    | some i => ∃ u, r = some u ∧ RelV (.int i) u
    | none => r = none
theorem keys_str : ∀ {l : List DictEntry} {ks : List (Str × Int)}, l.map keyOf = ks.map some → (∀ e ∈ l, ∃ x t, e.key = .str x t ∧ x ∈ ks.map (·.1))
  | [], _, _ => fun _ h => nomatch h
  | e :: r, [], h => by cases h
  | e :: r, k :: ks, h => by
    have h1 : keyOf e :: r.map keyOf = some k :: ks.map some := h
    injection h1 with h2 h3
    have ih := keys_str h3
    intro e' he'
    rcases List.mem_cons.mp he' with rfl | he'
    · unfold keyOf at h2
      split at h2
      · rename_i x t q
        have h4 := Option.some.inj h2
        exact ⟨x, t, q, by rw [← h4]; simp⟩
      · cases h2
    · obtain ⟨x, t, q, m⟩ := ih e' he'
      exact ⟨x, t, q, by simp at m ⊢; exact .inr m⟩
theorem lookup_mem {α : Type} {z : Str} {i : α} : ∀ {l : List (Str × α)}, l.lookup z = some i → (z, i) ∈ l
  | [], h => by simp at h
  | (a, b) :: l, h => by
    rw [List.lookup_cons] at h
    by_cases e : z = a
    · subst e; simp at h; subst h; simp
    · rw [show (z == a) = false from by simpa using e] at h
      exact List.mem_cons_of_mem _ (lookup_mem h)
theorem lookup_not {α : Type} {z : Str} : ∀ {l : List (Str × α)}, l.lookup z = none → z ∉ l.map (·.1)
  | [], h => by simp
  | (a, b) :: l, h => by
    rw [List.lookup_cons] at h
    by_cases e : z = a
    · subst e; simp at h
    · rw [show (z == a) = false from by simpa using e] at h
      have := lookup_not h
      simp at this ⊢
      exact ⟨e, this⟩
theorem SaysB.tab {ts : List TbD} {w : World} {K : PySem.W.Frag} {h : Heap} {mg : Str → Option Value} (c : SaysB ts w K) (KX : K.In h) (G : h.Ns mainGlobals mg) (i : Nat) {x : Str} {kvs : List (Str × Int)} (hu : ts[i]? = some (x, kvs) := by rfl) : TabAt K w mg x kvs := by
  have c1 : (ts.all fun t => tbB K t) = true := congrArg (fun z : AlB => z.1) c
  have c2 : ts.map (fun t => dicW K (tbA K t)) = ts.map fun t => some (keysIn w.params (t.2.map (·.1))) := congrArg (fun z : AlB => z.2) c
  have m := List.mem_of_getElem? hu
  have c1 := List.all_eq_true.mp c1 _ m
  obtain ⟨n1, v1⟩ := tbB_some c1
  have e2 : (ts.map (fun t => dicW K (tbA K t)))[i]? = (ts.map fun t => some (keysIn w.params (t.2.map (·.1))))[i]? := by rw [c2]
  rw [List.getElem?_map, List.getElem?_map, hu] at e2
  have e3 : dicW K (tbA K (x, kvs)) = some (keysIn w.params (kvs.map (·.1))) := Option.some.inj e2
  obtain ⟨es, n, kd⟩ := dicW_ok e3
  refine ⟨tbA K (x, kvs), es, n, PySem.W.mg_of KX G n1, kd, fun z => ?_⟩
  cases q : kvs.lookup z with
  | some i =>
    have mz := lookup_mem q
    obtain ⟨u, h1, h2⟩ := valsB_ok v1 (q := (z, Dv.int i)) (List.mem_map.mpr ⟨(z, i), mz, rfl⟩)
    exact ⟨some u, h1, u, rfl, h2⟩
  | none =>
    have nz := lookup_not q
    refine ⟨none, ?_, rfl⟩
    unfold dicW at e3
    rw [kd.at_] at e3
    simp only at e3
    split at e3
    · have e4 : es.toList.map keyOf = ((kvs.map (·.1)).map fun k => (k, PyData.keyHash w.params k)).map some := by rw [Option.some.inj e3]; unfold keysIn; simp
      have ks := keys_str e4
      unfold PySem.W.nsIn
      rw [kd.at_]
      simp only
      have f1 : es.toList.find? (·.key.isStr z) = none := by
        rw [List.find?_eq_none]
        intro e he hs
        obtain ⟨y, t, hy, my⟩ := ks e he
        rw [hy] at hs
        have : y = z := by simpa [Value.isStr] using hs
        subst this
        simp at my
        simp at nz
        obtain ⟨i, hi⟩ := my
        exact nz i hi
      have f2 : es.toList.any (·.refKey) = false := by
        rw [List.any_eq_false]
        intro e he
        obtain ⟨y, t, hy, my⟩ := ks e he
        unfold DictEntry.refKey
        rw [hy]; simp
      rw [f1, f2]; rfl
    · cases e3
section
variable {X : Cx} {cl : Tb} {e f : Expr} {mk mf : Ev → Option D} {apos cpos npos : Pos} {x : Str} {kvs : List (Str × Int)} {ty tx : TE}
end
def tab_PLACES : List (Str × Int) := [("note", 0), ("line", 0), ("first", 0), ("spread", 1), ("high", 2), ("ring", 2)]
end VI
set_option Elab.async false
set_option linter.all false
set_option maxRecDepth 100000
set_option autoImplicit false
namespace VI
open PySem L2
section
variable {K : PySem.W.Frag} {cl : Tb} {B1 H1 : Hp} {Da : Addr}
structure AccOk (K : PySem.W.Frag) (cl : Tb) (B1 H1 : Hp) (Da : Addr) (ys : List D) (acc : List V) (fp : List Addr) (B H : Hp) : Prop where
  n : New B1 H1 B H
  at_ : H Da = some (.lst acc)
  nb : B Da = none
  rep : RepL K cl B H ys acc fp
  fr : Fresh H1 B (Da :: fp)
variable {ys : List D} {acc : List V} {fp : List Addr} {B H : Hp}
theorem AccOk.news {B2 H2 : Hp} (a : AccOk K cl B1 H1 Da ys acc fp B H) (m : New B H B2 H2) : AccOk K cl B1 H1 Da ys acc fp B2 H2 := by
  refine ⟨a.n.trans m, m.ex.at_ a.at_, ?_, a.rep.news m, a.fr.news m fun b z => ?_⟩
  · cases q3 : B2 Da with
    | none => rfl
    | some u =>
      rcases m.nb Da (by rw [q3]; exact fun e => nomatch e) with z | z
      · exact absurd a.nb z
      · exact (fot_own z a.at_ rfl).elim
  · rcases List.mem_cons.mp z with rfl | z
    · exact ⟨_, a.at_, rfl⟩
    · exact a.rep.stand' b z
theorem AccOk.push {H3 B4 H4 : Hp} {dy : D} {y : V} {fy : List Addr} (hDa : H1 Da = none) (a : AccOk K cl B1 H1 Da ys acc fp B4 H4) (hst : HEx H H3) (h0 : AccOk K cl B1 H1 Da ys acc fp B H) (ry : Rep K cl B4 H4 dy y fy) (fry : Fresh H3 B4 fy) (n3 : ∀ b, H3 b = none → H1 b = none) :
    AccOk K cl B1 H1 Da (ys ++ [dy]) (acc ++ [y]) (fp ++ fy) B4 (upd H4 Da (.lst (acc ++ [y]))) := by
  have hfy : Da ∉ fy := fun z => by
    have h1 := fry.nh Da z
    rw [hst.at_ h0.at_] at h1; cases h1
  have f1 := a.fr
  have hfp : Da ∉ fp := (List.nodup_cons.mp f1.nd).1
  refine ⟨?_, upd_same, a.nb, ?_, ?_⟩
  · have nn := a.n
    exact ⟨nn.ex.put hDa a.at_ rfl, nn.le, nn.sub.upd_out a.nb, nn.nb⟩
  · have a1 : RepL K cl B4 (upd H4 Da (.lst (acc ++ [y]))) ys acc fp := a.rep.mono (BLe.refl _) fun c z => upd_ne fun e => hfp (e ▸ z)
    have a2 : Rep K cl B4 (upd H4 Da (.lst (acc ++ [y]))) dy y fy := ry.mono (BLe.refl _) fun c z => upd_ne fun e => hfy (e ▸ z)
    have := RepL.append a1 (repL_cons a2 repL_nil)
    simpa using this
  · refine ⟨?_, fun c z => ?_, fun c z => ?_⟩
    · rw [List.nodup_cons]
      refine ⟨fun z => ?_, List.nodup_append.mpr ⟨(List.nodup_cons.mp f1.nd).2, fry.nd, fun c hc d hd e => ?_⟩⟩
      · rcases List.mem_append.mp z with z | z
        · exact hfp z
        · exact hfy z
      · subst e
        obtain ⟨o, e, w⟩ := h0.rep.stand' c hc
        have h2 := fry.nh c hd
        rw [hst.keep _ _ (NT.own w) e] at h2; cases h2
    · rcases List.mem_cons.mp z with rfl | z
      · exact hDa
      · rcases List.mem_append.mp z with z | z
        · exact f1.nh c (List.mem_cons_of_mem _ z)
        · exact n3 c (fry.nh c z)
    · rcases List.mem_cons.mp z with rfl | z
      · exact a.nb
      · rcases List.mem_append.mp z with z | z
        · exact f1.nb c (List.mem_cons_of_mem _ z)
        · exact fry.nb c z
end
section
variable {X : Cx} {cl : Tb} {tg iter tg1 iter1 : Expr} {mi mi1 : Ev → Option (List D)} {g g1 : D → Ev → Option Ev} {mt mt1 : Ev → Option Bool} {pos : Pos}
end
section
variable {A : Ev} {mi mi1 : Ev → Option (List D)} {f : Ev → D → Option (List D)} {vs vs1 : List Nat} {g g1 : D → Ev → Option Ev} {mt mt1 : Ev → Option Bool} {me : Ev → Option D} {d : D}
end
end VI
set_option Elab.async false
set_option linter.all false
set_option maxRecDepth 100000
set_option autoImplicit false
namespace VI
open PySem L2
section
variable {X : Cx} {cl : Tb} {mu : List Nat} {k n : Nat} {f : Addr} {fd : FuncData} {ps : List Str} {x : Str} {pos pn : Pos} {e : Expr} {es : List Expr} {ms : Ev → Option (List D)} {g : List D → Option XOut} {p : Pl} {mx : Ev → Option XOut} {me : Ev → Option D}
end
section
variable {A : Ev} {g : List D → Option XOut} {q : Nat} {p : Pl} {ms : Ev → Option (List D)} {me : Ev → Option D} {mx : Ev → Option XOut}
end
end VI
set_option Elab.async false
set_option linter.all false
set_option maxRecDepth 100000
set_option autoImplicit false
namespace VI
open PySem L2
end VI
set_option Elab.async false
set_option linter.all false
set_option maxRecDepth 100000
set_option autoImplicit false
namespace VI
open PySem L2
@[simp] theorem kd_note_line : (Str.ofString "note" = Str.ofString "line") = False := eq_false (by decide +kernel)
@[simp] theorem kd_note_first : (Str.ofString "note" = Str.ofString "first") = False := eq_false (by decide +kernel)
@[simp] theorem kd_note_spread : (Str.ofString "note" = Str.ofString "spread") = False := eq_false (by decide +kernel)
@[simp] theorem kd_note_high : (Str.ofString "note" = Str.ofString "high") = False := eq_false (by decide +kernel)
@[simp] theorem kd_note_ring : (Str.ofString "note" = Str.ofString "ring") = False := eq_false (by decide +kernel)
@[simp] theorem kd_line_note : (Str.ofString "line" = Str.ofString "note") = False := eq_false (by decide +kernel)
@[simp] theorem kd_line_first : (Str.ofString "line" = Str.ofString "first") = False := eq_false (by decide +kernel)
@[simp] theorem kd_line_spread : (Str.ofString "line" = Str.ofString "spread") = False := eq_false (by decide +kernel)
@[simp] theorem kd_line_high : (Str.ofString "line" = Str.ofString "high") = False := eq_false (by decide +kernel)
@[simp] theorem kd_line_ring : (Str.ofString "line" = Str.ofString "ring") = False := eq_false (by decide +kernel)
@[simp] theorem kd_first_note : (Str.ofString "first" = Str.ofString "note") = False := eq_false (by decide +kernel)
@[simp] theorem kd_first_line : (Str.ofString "first" = Str.ofString "line") = False := eq_false (by decide +kernel)
@[simp] theorem kd_first_spread : (Str.ofString "first" = Str.ofString "spread") = False := eq_false (by decide +kernel)
@[simp] theorem kd_first_high : (Str.ofString "first" = Str.ofString "high") = False := eq_false (by decide +kernel)
@[simp] theorem kd_first_ring : (Str.ofString "first" = Str.ofString "ring") = False := eq_false (by decide +kernel)
@[simp] theorem kd_spread_note : (Str.ofString "spread" = Str.ofString "note") = False := eq_false (by decide +kernel)
@[simp] theorem kd_spread_line : (Str.ofString "spread" = Str.ofString "line") = False := eq_false (by decide +kernel)
@[simp] theorem kd_spread_first : (Str.ofString "spread" = Str.ofString "first") = False := eq_false (by decide +kernel)
@[simp] theorem kd_spread_high : (Str.ofString "spread" = Str.ofString "high") = False := eq_false (by decide +kernel)
@[simp] theorem kd_spread_ring : (Str.ofString "spread" = Str.ofString "ring") = False := eq_false (by decide +kernel)
@[simp] theorem kd_high_note : (Str.ofString "high" = Str.ofString "note") = False := eq_false (by decide +kernel)
@[simp] theorem kd_high_line : (Str.ofString "high" = Str.ofString "line") = False := eq_false (by decide +kernel)
@[simp] theorem kd_high_first : (Str.ofString "high" = Str.ofString "first") = False := eq_false (by decide +kernel)
@[simp] theorem kd_high_spread : (Str.ofString "high" = Str.ofString "spread") = False := eq_false (by decide +kernel)
@[simp] theorem kd_high_ring : (Str.ofString "high" = Str.ofString "ring") = False := eq_false (by decide +kernel)
@[simp] theorem kd_ring_note : (Str.ofString "ring" = Str.ofString "note") = False := eq_false (by decide +kernel)
@[simp] theorem kd_ring_line : (Str.ofString "ring" = Str.ofString "line") = False := eq_false (by decide +kernel)
@[simp] theorem kd_ring_first : (Str.ofString "ring" = Str.ofString "first") = False := eq_false (by decide +kernel)
@[simp] theorem kd_ring_spread : (Str.ofString "ring" = Str.ofString "spread") = False := eq_false (by decide +kernel)
@[simp] theorem kd_ring_high : (Str.ofString "ring" = Str.ofString "high") = False := eq_false (by decide +kernel)
@[simp] theorem eqD_sn {s : Str} : eqD (.str s) .non = some (.bl false) := (rfl)
@[simp] theorem eqD_ns {s : Str} : eqD .non (.str s) = some (.bl false) := (rfl)
abbrev Row4 := Str × Str × Str × Int
def row4 (r : Row4) : D := .tup [.str r.1, .str r.2.1, .str r.2.2.1, .int r.2.2.2]
@[simp] theorem row4_frz {r : Row4} : (row4 r).frz = row4 r := by simp [row4]
@[simp] theorem row4_plain {r : Row4} : (row4 r).plain = true := by simp [row4]
@[simp] theorem row4_clean {r : Row4} : (row4 r).clean = true := by simp [row4]
@[simp] theorem row4_0 {r : Row4} : subscr (row4 r) (.int 0) = some (.str r.1) := by simp [row4]
@[simp] theorem row4_1 {r : Row4} : subscr (row4 r) (.int 1) = some (.str r.2.1) := by simp [row4]
@[simp] theorem row4_2 {r : Row4} : subscr (row4 r) (.int 2) = some (.str r.2.2.1) := by simp [row4]
@[simp] theorem row4_3 {r : Row4} : subscr (row4 r) (.int 3) = some (.int r.2.2.2) := by simp [row4]
def placeF (k : Str) : Int := (tab_PLACES.lookup k).getD (-1)
def highV (L : LogS) (fi : Option Str) (s : Str) : Int := if fi = some s then min (L.hi s) (L.net.dawn - 1) else L.hi s
def toldOf (L : LogS) (fi : Option Str) (B : Str → Int) (r : Row4) : Option (List (Str × Str)) :=
  if r.1 = "line" then (match (L.net.span r.2.1 r.2.2.1).bind (·.most) with
    | some m => if r.2.2.2 = B r.2.2.1 - m then some [(r.2.2.1, "sleep")] else none
    | none => none)
  else if r.1 = "note" then if r.2.2.1 = r.2.1 ∧ r.2.2.2 = L.lo r.2.1 then some [] else none
  else if r.1 = "first" then if fi = some r.2.2.1 ∧ r.2.2.2 = B r.2.2.1 then some [] else none
  else if r.1 = "spread" then if r.2.2.1 = r.2.1 ∧ L.net.look r.2.1 = false ∧ 0 ≤ r.2.2.2 ∧ r.2.2.2 ≤ L.net.dawn then some [(r.2.1, "err")] else none
  else if r.1 = "high" then if r.2.2.1 = r.2.1 ∧ r.2.2.2 = highV L fi r.2.1 ∧ r.2.2.2 < B r.2.1 then some [] else none
  else if r.1 = "ring" then if r.2.2.1 = r.2.1 ∧ fi = some r.2.1 ∧ L.net.look r.2.1 = false ∧ r.2.2.2 = B r.2.1 then some [(r.2.1, "err")] else none
  else none
def toldD : Option (List (Str × Str)) → D
  | none => .non
  | some fs => .lst true (fs.map fltD)
abbrev RdSt := Int × (Str → Int) × List (Str × Str)
def stepR (L : LogS) (fi : Option Str) (st : RdSt) (r : Row4) : Option RdSt :=
  if placeF r.1 < st.1 ∨ st.1 = 2 ∨ r.2.1 ∉ L.net.names ∨ r.2.2.1 ∉ L.net.names then none
  else (toldOf L fi st.2.1 r).map fun f => (placeF r.1, (if placeF r.1 < 2 then put st.2.1 r.2.1 (max (st.2.1 r.2.1) r.2.2.2) else st.2.1), st.2.2 ++ f)
def rowsR (L : LogS) (fi : Option Str) : List Row4 → Nat → RdSt → Nat ⊕ RdSt
  | [], _, st => .inr st
  | r :: rs, i, st => match stepR L fi st r with
    | none => .inl i
    | some st' => rowsR L fi rs (i + 1) st'
def namedR (N : Net) (told : List (Str × Str)) : List (Str × Str) := N.names.flatMap fun s => ((["err", "sleep"] : List Str).filter fun k => decide ((s, k) ∈ told)).map fun k => (s, k)
def lateR (N : Net) (B : Str → Int) : List Row4 → Nat → Option Nat
  | [], _ => none
  | r :: rs, i => if r.1 = "spread" ∧ N.soonest B r.2.1 < r.2.2.2 then some i else lateR N B rs (i + 1)
def start0 : RdSt := (0, fun _ => 0, [])
def readC (L : LogS) (fi : Option Str) (rs : List Row4) : Nat ⊕ List (Str × Str) := match rowsR L fi rs 0 start0 with
  | .inl i => .inl i
  | .inr st => if st.1 < 2 then .inl rs.length else match lateR L.net st.2.1 rs 0 with
    | some i => .inl i
    | none => .inr (namedR L.net st.2.2)
section
variable {L : LogS} {N : Net} {fi : Option Str} {B : Str → Int} {r : Row4} {b c d e f : Bool} {s : Str}
theorem place_note : placeF "note" = 0 := by decide +kernel
theorem place_line : placeF "line" = 0 := by decide +kernel
theorem place_first : placeF "first" = 0 := by decide +kernel
theorem place_spread : placeF "spread" = 1 := by decide +kernel
theorem place_high : placeF "high" = 2 := by decide +kernel
theorem place_ring : placeF "ring" = 2 := by decide +kernel
theorem place_cases (k : Str) : (k = "note" ∨ k = "line" ∨ k = "first" ∨ k = "spread" ∨ k = "high" ∨ k = "ring") ∨ (placeF k = -1 ∧ k ≠ "note" ∧ k ≠ "line" ∧ k ≠ "first" ∧ k ≠ "spread" ∧ k ≠ "high" ∧ k ≠ "ring") := by
  by_cases h1 : k = "note"
  · exact .inl (.inl h1)
  by_cases h2 : k = "line"
  · exact .inl (.inr (.inl h2))
  by_cases h3 : k = "first"
  · exact .inl (.inr (.inr (.inl h3)))
  by_cases h4 : k = "spread"
  · exact .inl (.inr (.inr (.inr (.inl h4))))
  by_cases h5 : k = "high"
  · exact .inl (.inr (.inr (.inr (.inr (.inl h5)))))
  by_cases h6 : k = "ring"
  · exact .inl (.inr (.inr (.inr (.inr (.inr h6)))))
  refine .inr ⟨?_, h1, h2, h3, h4, h5, h6⟩
  unfold placeF tab_PLACES
  have e : ∀ {a b : Str}, ¬ a = b → (a == b) = false := fun h => by simpa using h
  simp only [List.lookup_cons, e h1, e h2, e h3, e h4, e h5, e h6, List.lookup_nil, Option.getD_none]
theorem place_two (k : Str) : placeF k ≤ 2 := by
  rcases place_cases k with (h | h | h | h | h | h) | h
  · rw [h, place_note]; omega
  · rw [h, place_line]; omega
  · rw [h, place_first]; omega
  · rw [h, place_spread]; omega
  · rw [h, place_high]; omega
  · rw [h, place_ring]; omega
  · omega
end
end VI
set_option Elab.async false
set_option linter.all false
set_option maxRecDepth 100000
set_option autoImplicit false
namespace VI
open PySem L2
def toldRow (r : Row4) : Str × Str := if r.1 = "line" then (r.2.2.1, "sleep") else if r.1 = "spread" ∨ r.1 = "ring" then (r.2.1, "err") else ("", "")
def namedC (N : Net) (rs : List Row4) : List (Str × Str) := N.names.flatMap fun s => ((["err", "sleep"] : List Str).filter fun k => decide (∃ r ∈ rs, toldRow r = (s, k))).map fun k => (s, k)
section
variable {L : LogS} {N : Net} {fi : Option Str} {B : Str → Int} {r : Row4} {a b c d e f g h : Bool} {s v : Str} {lo hi : Str → Int}
def PairOk (p : Str × Str) : Prop := PyData.strOk p.1 = true ∧ PyData.strOk p.2 = true
theorem pair_ok {s k : Str} (hk : k = "err" ∨ k = "sleep") (hs : NameOk s) : PairOk (s, k) := ⟨hs.fit, by rcases hk with rfl | rfl; exact (by decide +kernel : PyData.strOk (Str.ofString "err") = true); exact (by decide +kernel : PyData.strOk (Str.ofString "sleep") = true)⟩
theorem told_pair (h1 : NameOk r.2.1) (h2 : NameOk r.2.2.1) : PairOk (toldRow r) := by
  unfold toldRow
  split
  · exact pair_ok (.inr rfl) h2
  split
  · exact pair_ok (.inl rfl) h1
  · exact ⟨(by decide +kernel : PyData.strOk (Str.ofString "") = true), (by decide +kernel : PyData.strOk (Str.ofString "") = true)⟩
theorem flt_eq {p q : Str × Str} (hp : PairOk p) (hq : PairOk q) : eqD (fltD p) (fltD q) = some (.bl (decide (p = q))) := by
  obtain ⟨p1, p2⟩ := p
  obtain ⟨q1, q2⟩ := q
  simp only [PairOk] at hp hq
  unfold fltD
  rw [eqD_tt (by simp [hp]) (by simp [hq])]
  by_cases h1 : p1 = q1 <;> by_cases h2 : p2 = q2 <;> simp [h1, h2]
def lastN : SM := (sKill [6] (sIf (mAnd (mT (mOp eqD (mV 6) (mTup (mCons (mP (mV 3)) (mCons (mP (mV 4)) mNil))))) (mT (mOp ninD (mV 6) (mV 2))))
    (sFrz 6 (sEff (bMeth1 (pN 2) (mP (mV 6)) opAppend)))
    sNx))
def addF (p q : Str × Str) (acc : List (Str × Str)) : List (Str × Str) := if q = p ∧ p ∉ acc then acc ++ [p] else acc
theorem last_named {x0 x1 : Option D} {acc : List (Str × Str)} {k : Str} {p : Str × Str} (hpp : PairOk p) (hk : k = "err" ∨ k = "sleep") (hs : NameOk s) (h1 : ∀ p ∈ acc, NameOk p.1) (h2 : ∀ p ∈ acc, p.2 = "err" ∨ p.2 = "sleep") (hl : acc.length < 999999) :
    lastN [x0, x1, some (.lst true (acc.map fltD)), some (.str s), some (.str k), none, some (fltD p)] = some (.nx [x0, x1, some (.lst true ((addF (s, k) p acc).map fltD)), some (.str s), some (.str k), none, none]) := by
  have hn := flt_nin (b := true) (p := (s, k)) (fs := acc) ⟨hs, hk⟩ h1 h2
  have he := flt_eq (p := p) (q := (s, k)) hpp (pair_ok hk hs)
  have hlen : acc.length < 1000000 := by omega
  have hsk : D.tup [.str s, .str k] = fltD (s, k) := rfl
  unfold addF
  by_cases q : p = (s, k)
  · subst q
    by_cases g : (s, k) ∈ acc
    · simp [lastN, hsk, he, hn, g]
    · simp [lastN, hsk, he, hn, g, hlen]
  · simp [lastN, hsk, he, q]
theorem named_row {x0 x1 : Option D} {acc : List (Str × Str)} {k : Str} (hr1 : NameOk r.2.1) (hr2 : NameOk r.2.2.1) (hk : k = "err" ∨ k = "sleep") (hs : NameOk s) (h1 : ∀ p ∈ acc, NameOk p.1) (h2 : ∀ p ∈ acc, p.2 = "err" ∨ p.2 = "sleep") (hl : acc.length < 999999) :
    (tgN 5 (row4 r) [x0, x1, some (.lst true (acc.map fltD)), some (.str s), some (.str k), none, none]).bind l1_d_law_named = some (.nx [x0, x1, some (.lst true ((addF (s, k) (toldRow r) acc).map fltD)), some (.str s), some (.str k), none, none]) := by
  rw [← last_named (told_pair hr1 hr2) hk hs h1 h2 hl]
  obtain ⟨kd, n, o, t⟩ := r
  by_cases c1 : kd = "line"
  · subst c1
    simp [l1_d_law_named, row4, toldRow, fltD, lastN]
  by_cases c2 : kd = "spread"
  · subst c2
    simp [l1_d_law_named, row4, toldRow, fltD, lastN]
  by_cases c3 : kd = "ring"
  · subst c3
    simp [l1_d_law_named, row4, toldRow, fltD, lastN]
  simp [l1_d_law_named, row4, toldRow, fltD, lastN, c1, c2, c3]
theorem named_rows {rs : List Row4} {x0 x1 : Option D} {acc : List (Str × Str)} {k : Str} (hr : ∀ r ∈ rs, NameOk r.2.1 ∧ NameOk r.2.2.1) (hk : k = "err" ∨ k = "sleep") (hs : NameOk s) (h1 : ∀ p ∈ acc, NameOk p.1) (h2 : ∀ p ∈ acc, p.2 = "err" ∨ p.2 = "sleep") (hl : acc.length < 999998) (hn : (s, k) ∉ acc) :
    forB (tgN 5) l1_d_law_named (rs.map row4) [x0, x1, some (.lst true (acc.map fltD)), some (.str s), some (.str k), none, none] = some (.nx [x0, x1, some (.lst true ((if ∃ r ∈ rs, toldRow r = (s, k) then acc ++ [(s, k)] else acc).map fltD)), some (.str s), some (.str k), none, none]) := by
  generalize hF : forB _ _ _ _ = o
  have := for_detS hF (fun i => [(2, some (.lst true ((if ∃ r ∈ rs.take i, toldRow r = (s, k) then acc ++ [(s, k)] else acc).map fltD)))]) (by simp) (fun i r hi => by
    have hm := hr r (List.mem_of_getElem? hi)
    have htake : rs.take (i + 1) = rs.take i ++ [r] := by rw [List.take_succ, hi]; rfl
    have hq := named_row (x0 := x0) (x1 := x1) (r := r) (acc := if ∃ r ∈ rs.take i, toldRow r = (s, k) then acc ++ [(s, k)] else acc) hm.1 hm.2 hk hs (by
      split
      · intro p hp
        rcases List.mem_append.mp hp with hp | hp
        · exact h1 p hp
        · have : p = (s, k) := by simpa using hp
          subst this; exact hs
      · exact h1) (by
      split
      · intro p hp
        rcases List.mem_append.mp hp with hp | hp
        · exact h2 p hp
        · have : p = (s, k) := by simpa using hp
          subst this; exact hk
      · exact h2) (by
      split
      · rw [List.length_append]; show acc.length + 1 < 999999; omega
      · omega)
    refine .inl ?_
    have he : addF (s, k) (toldRow r) (if ∃ r ∈ rs.take i, toldRow r = (s, k) then acc ++ [(s, k)] else acc) = if ∃ r ∈ rs.take (i + 1), toldRow r = (s, k) then acc ++ [(s, k)] else acc := by
      unfold addF
      by_cases a : ∃ r ∈ rs.take i, toldRow r = (s, k)
      · have a' : ∃ r ∈ rs.take (i + 1), toldRow r = (s, k) := by
          obtain ⟨r', q1, q2⟩ := a
          exact ⟨r', by rw [htake]; simp [q1], q2⟩
        rw [if_pos a, if_pos a', if_neg (by simp)]
      · rw [if_neg a]
        by_cases b : toldRow r = (s, k)
        · rw [if_pos ⟨b, hn⟩, if_pos ⟨r, by rw [htake]; simp, b⟩]
        · rw [if_neg (fun z => b z.1), if_neg]
          rintro ⟨r', q1, q2⟩
          rw [htake] at q1
          rcases List.mem_append.mp q1 with q1 | q1
          · exact a ⟨r', q1, q2⟩
          · have : r' = r := by simpa using q1
            subst this; exact b q2
    rw [he] at hq
    simpa using hq)
  rw [List.take_length] at this
  rw [this]
  rfl
def namedOf (rs : List Row4) (s : Str) : List (Str × Str) := ((["err", "sleep"] : List Str).filter fun k => decide (∃ r ∈ rs, toldRow r = (s, k))).map fun k => (s, k)
theorem namedC_eq {rs : List Row4} : namedC N rs = N.names.flatMap (namedOf rs) := rfl
theorem namedOf_mem {rs : List Row4} {p : Str × Str} (h : p ∈ namedOf rs s) : p.1 = s ∧ (p.2 = "err" ∨ p.2 = "sleep") := by
  unfold namedOf at h
  obtain ⟨k, hk, rfl⟩ := List.mem_map.mp h
  have := (List.mem_filter.mp hk).1
  exact ⟨rfl, by simpa using this⟩
theorem namedOf_len {rs : List Row4} : (namedOf rs s).length ≤ 2 := by
  unfold namedOf
  rw [List.length_map]
  exact List.length_filter_le _ _
theorem namedC_len {rs : List Row4} {ks : List Str} : (ks.flatMap (namedOf rs)).length ≤ 2 * ks.length := by
  induction ks with
  | nil => simp
  | cons s ks ih =>
    rw [List.flatMap_cons, List.length_append, List.length_cons]
    have := namedOf_len (rs := rs) (s := s)
    omega
theorem named_ap {rs : List Row4} (ok : N.Ok) (hr : ∀ r ∈ rs, NameOk r.2.1 ∧ NameOk r.2.2.1) : ap f_d_law_named [caseE a b c N, .lst d (rs.map row4)] = some (.lst true ((namedC N rs).map fltD)) := by
  refine ap_run rfl ?_ (by simp)
  simp [env0, b_d_law_named]
  generalize hF : forB _ l3_d_law_named _ _ = o
  have := for_detS hF (fun i => [(2, some (.lst true (((N.names.take i).flatMap (namedOf rs)).map fltD)))]) (by simp) (fun i s hs => by
    have ms := List.mem_of_getElem? hs
    have hno := ok.nok s ms
    have htake : N.names.take (i + 1) = N.names.take i ++ [s] := by rw [List.take_succ, hs]; rfl
    have hnot : s ∉ N.names.take i := take_not ok.nd hs
    generalize hacc : (N.names.take i).flatMap (namedOf rs) = acc
    have hin : ∀ p ∈ acc, p.1 ∈ N.names.take i ∧ (p.2 = "err" ∨ p.2 = "sleep") := fun p hp => by
      rw [← hacc] at hp
      obtain ⟨x, hx, hpx⟩ := List.mem_flatMap.mp hp
      obtain ⟨e1, e2⟩ := namedOf_mem hpx
      exact ⟨by rw [e1]; exact hx, e2⟩
    have hal : acc.length ≤ 16 := by
      rw [← hacc]
      have := namedC_len (rs := rs) (ks := N.names.take i)
      have := ok.len
      simp at *; omega
    have hi1 : ∀ p ∈ acc, NameOk p.1 := fun p hp => ok.nok _ (List.mem_of_mem_take (hin p hp).1)
    have hi2 : ∀ p ∈ acc, p.2 = "err" ∨ p.2 = "sleep" := fun p hp => (hin p hp).2
    have n1 := named_rows (rs := rs) (x0 := some (caseE false false false N)) (x1 := some (.lst false (rs.map row4))) (acc := acc) (k := "err") (s := s) hr (.inl rfl) hno hi1 hi2 (by omega) (fun z => hnot (hin _ z).1)
    generalize hacc2 : (if ∃ r ∈ rs, toldRow r = ((s, "err") : Str × Str) then acc ++ [((s, "err") : Str × Str)] else acc) = acc2 at n1
    have hin2 : ∀ p ∈ acc2, NameOk p.1 ∧ (p.2 = "err" ∨ p.2 = "sleep") ∧ p ≠ ((s, "sleep") : Str × Str) := by
      rw [← hacc2]
      split
      · intro p hp
        rcases List.mem_append.mp hp with hp | hp
        · exact ⟨hi1 p hp, hi2 p hp, fun z => hnot (by rw [z] at hp; exact (hin _ hp).1)⟩
        · have : p = ((s, "err") : Str × Str) := by simpa using hp
          subst this
          exact ⟨hno, .inl rfl, fun z => absurd (Prod.mk.inj z).2 (by decide +kernel)⟩
      · exact fun p hp => ⟨hi1 p hp, hi2 p hp, fun z => hnot (by rw [z] at hp; exact (hin _ hp).1)⟩
    have n2 := named_rows (rs := rs) (x0 := some (caseE false false false N)) (x1 := some (.lst false (rs.map row4))) (acc := acc2) (k := "sleep") (s := s) hr (.inr rfl) hno (fun p hp => (hin2 p hp).1) (fun p hp => (hin2 p hp).2.1) (by
      rw [← hacc2]
      split
      · rw [List.length_append]; show acc.length + 1 < 999998; omega
      · omega) (fun z => (hin2 _ z).2.2 rfl)
    have hfin : (if ∃ r ∈ rs, toldRow r = ((s, "sleep") : Str × Str) then acc2 ++ [((s, "sleep") : Str × Str)] else acc2) = (N.names.take (i + 1)).flatMap (namedOf rs) := by
      rw [htake, List.flatMap_append, hacc, List.flatMap_cons, List.flatMap_nil, List.append_nil, ← hacc2]
      unfold namedOf
      by_cases q1 : ∃ r ∈ rs, toldRow r = ((s, "err") : Str × Str) <;> by_cases q2 : ∃ r ∈ rs, toldRow r = ((s, "sleep") : Str × Str) <;> simp [q1, q2]
    rw [hfin] at n2
    refine .inl ?_
    simp [l3_d_law_named, l2_d_law_named, forB_cons, n1, n2])
  subst this
  simp [namedC_eq]
end
end VI
set_option Elab.async false
set_option linter.all false
set_option maxRecDepth 100000
set_option autoImplicit false
namespace VI
open PySem L2
section
variable {K : PySem.W.Frag} {cl : Nat → Addr} {cv : Value} {cvs : List Value} {f : Nat → Option Bool} {fs : List (Nat → Option Bool)}
end
section
variable {X : Cx} {cl : Nat → Addr} {W : WX} {i c : Nat} {a d : Addr} {oe : Obj} {fs : List (Str × D)} {n : Str} {np p1 p2 pos tpos : Pos} {x1 : Nat}
end
section
variable {X : Cx} {cl : Tb} {e : Expr} {p p2 pos pos2 : Pos} {me : Ev → Option D}
end
end VI
set_option Elab.async false
set_option linter.all false
set_option maxRecDepth 100000
set_option autoImplicit false
namespace VI
open PySem L2
section
variable {X : Cx} {cl : Tb} {mu : List Nat} {o e : Expr} {p : Pl} {me : Ev → Option D}
end
end VI
set_option Elab.async false
set_option linter.all false
set_option maxRecDepth 100000
set_option autoImplicit false
namespace VI
open PySem L2
section
variable {X : Cx} {cl : Tb} {k c : Nat} {p f : Addr} {fd : FuncData} {ps : List Str} {m : Str} {o : Expr} {pos : Pos} {me : Ev → Option D} {g : List D → Option (D × Ev)}
end
section
variable {X : Cx} {cl : Tb} {c : Nat} {C : Addr} {e : Expr} {y : Str} {p q pos : Pos} {me : Ev → Option D}
end
end VI
set_option Elab.async false
set_option linter.all false
set_option maxRecDepth 100000
set_option autoImplicit false
namespace VI
open PySem PySem.Spec PyProof.Rows L2 L2.DX
section
variable {X : Cx}
end
section
variable {X : Cx} {cl : Tb} {mu : List Nat} {o e : Expr} {p : Pl} {me : Ev → Option D}
end
end VI
set_option Elab.async false
set_option linter.all false
set_option maxRecDepth 100000
set_option autoImplicit false
namespace VI
open PySem PySem.Spec PyProof.Rows L2
section
variable {X : Cx} {C f : Addr} {fld : Str} {fd : FuncData} {ps : List Str} {k : Nat}
end
section
variable {X : Cx} {cl : Tb} {mu : List Nat} {m : Ev → Option D} {c : Nat} {fld : Str} {fd : FuncData} {ps : List Str} {k : Nat} {f : Addr}
end
end VI
set_option Elab.async false
set_option linter.all false
set_option maxRecDepth 100000
set_option autoImplicit false
namespace VI
open PySem PySem.Spec PyProof.Rows L2
section
variable {X : Cx} {e : Expr} {te : TE} {p apos cpos pos : Pos}
end
section
variable {X : Cx} {cl : Tb} {e : Expr} {me : Ev → Option D} {p apos cpos pos : Pos}
end
end VI
set_option Elab.async false
set_option linter.all false
set_option maxRecDepth 100000
set_option autoImplicit false
namespace VI
open PySem L2
section
variable {K : PySem.W.Frag} {cl : Tb} {G : GS} {B H B' H' : Hp} {σ σ' : St} {A A' : Ev} {F F' : Nat → List Addr} {d e0 : D} {v u : V} {fp : List Addr}
end
section
variable {X : Cx} {cl : Tb} {mu : List Nat} {e : Expr} {p : Pl} {body : List Stmt} {mb : SM} {pos pos' : Pos}
end
end VI
set_option Elab.async false
set_option linter.all false
set_option maxRecDepth 100000
set_option autoImplicit false
namespace VI
open PySem L2
section
variable {X : Cx} {K : PySem.W.Frag} {f0 : Nat → Addr} {W0 : WX} {G : GS} {B H : Hp} {σ : L2.St} {A : Ev} {F : Nat → List Addr} {mu : List Nat} {tg : Expr} {pos : Pos} {m : Ev → Option D}
end
end VI
set_option Elab.async false
set_option linter.all false
set_option maxRecDepth 100000
set_option autoImplicit false
namespace VI
open PySem L2
section
variable {K : PySem.W.Frag} {cl : Tb} {G : GS} {B H B2 H2 : Hp} {σ σ2 : St} {A A2 : Ev} {F F2 : Nat → List Addr} {ks mu mu' : List Nat}
end
section
variable {X : Cx} {cl : Tb} {mu mu' : List Nat} {st : Stmt} {m : SM}
end
end VI
set_option Elab.async false
set_option linter.all false
set_option maxRecDepth 100000
set_option autoImplicit false
namespace VI
open PySem L2
section
variable {X : Cx} {cl : Tb} {mu : List Nat} {e o : Expr} {p : Pl}
end
end VI
set_option Elab.async false
set_option linter.all false
set_option maxRecDepth 100000
set_option autoImplicit false
namespace VI
open PySem L2 PySem.Builtin PySem.Builtin.Str
end VI
set_option Elab.async false
set_option linter.all false
set_option maxRecDepth 100000
set_option autoImplicit false
namespace VI
open PySem PySem.Spec PyProof.Rows L2 L2.DX
end VI
set_option Elab.async false
set_option linter.all false
set_option maxRecDepth 100000
set_option autoImplicit false
namespace VI
open PySem L2
section
variable {K : PySem.W.Frag} {cl : Tb} {G : GS} {B H B' H' : Hp} {σ σ' : St} {A A' : Ev} {F F' : Nat → List Addr} {d : D} {v : V} {fp : List Addr}
theorem Good.push (g : Good K cl G B H σ A F) (r : Rep K cl B H d v fp) (w : Own G B F fp) : Good K cl G B H (σ ++ [some v]) (A ++ [some d]) (setF F A.length fp) := by
  have h := (g.more 1).set (i := A.length) (by simp) (fun p hp e => by
    have := g.keep p hp
    have := (List.getElem?_eq_some_iff.mp this).1
    rw [g.len] at this; omega) r w
  have e1 : (σ ++ List.replicate 1 none).set A.length (some v) = σ ++ [some v] := by rw [← g.len]; simp
  have e2 : (A ++ List.replicate 1 none).set A.length (some d) = A ++ [some d] := by simp
  rw [e1, e2] at h
  exact h
end
section
variable {X : Cx} {cl : Tb} {mu : List Nat} {e : Expr} {es : List Expr} {x : Str} {pn pos : Pos} {ms : Ev → Option (List D)} {ps : List (Nat × Pl)} {f : Addr} {fd : FuncData} {pms : List Str} {k i : Nat} {g : List D → Option (D × Ev)}
end
end VI
set_option Elab.async false
set_option linter.all false
set_option maxRecDepth 100000
set_option autoImplicit false
namespace VI
open PySem L2
abbrev Pt := Str × Str
section
variable {K : PySem.W.Frag} {cl : Nat → Addr} {B H : Hp} {s : Str} {f : List Addr} {b : Addr} {ws : List V}
end
section
variable {K : PySem.W.Frag} {B H : Hp}
def ExtS (S : Addr → Prop) (B B2 : Hp) : Prop := ∀ a u, S a → B a = some u → B2 a = some u
theorem ExtS.l {S T : Addr → Prop} {B B2 : Hp} (h : ExtS (fun a => S a ∨ T a) B B2) : ExtS S B B2 := fun a u s e => h a u (.inl s) e
theorem ExtS.r {S T : Addr → Prop} {B B2 : Hp} (h : ExtS (fun a => S a ∨ T a) B B2) : ExtS T B B2 := fun a u s e => h a u (.inr s) e
def Needs (S : Addr → Prop) (B : Hp) : Prop := ∀ a, S a → ∀ vs, B a = some (.lst vs) → ∀ B2, ExtS S B B2 → ∀ b rest s1 s2, vs = .ref b :: rest → B2 b ≠ some (.tup [.str s1, .str s2])
theorem Needs.or {S T : Addr → Prop} (h : Needs S B) (k : Needs T B) : Needs (fun a => S a ∨ T a) B := fun a s vs e B2 x b rest s1 s2 ev => s.elim (fun s => h a s vs e B2 x.l b rest s1 s2 ev) fun s => k a s vs e B2 x.r b rest s1 s2 ev
theorem Needs.none : Needs (fun _ => False) B := fun _ s => s.elim
theorem Needs.node {S : Addr → Prop} {a : Addr} {o : HO} (h : Needs S B) (e : B a = some o) (n : ∀ vs, o ≠ .lst vs) : Needs (fun b => b = a ∨ S b) B := fun c s vs ev B2 x b rest s1 s2 er => s.elim (fun s => by subst s; rw [e] at ev; cases ev; exact absurd rfl (n vs)) fun s => h c s vs ev B2 x.r b rest s1 s2 er
end
section
variable {K : PySem.W.Frag} {cl : Nat → Addr} {B H B' H' : Hp}
end
section
variable {K : PySem.W.Frag} {cl : Nat → Addr} {n : Nat} {f : List D → Option (D × Ev)} {vs : List V} {H : Hp} {Q : VK} {E : XK}
end
end VI
set_option Elab.async false
set_option linter.all false
set_option maxRecDepth 100000
set_option autoImplicit false
namespace VI
open PySem L2
section
variable {X : Cx} {cl : Tb} {mu : List Nat} {o e : Expr} {p : Pl} {me : Ev → Option D}
end
end VI
set_option Elab.async false
set_option linter.all false
set_option maxRecDepth 100000
set_option autoImplicit false
namespace VI
open PySem L2
section
variable {X : Cx} {cl : Tb} {mu : List Nat} {body : List Stmt} {mb : SM} {pos py pn : Pos}
end
end VI
set_option Elab.async false
set_option linter.all false
set_option maxRecDepth 100000
set_option autoImplicit false
namespace VI
open PySem L2
section
variable {X : Cx} {cl : Tb} {e : Expr} {me : Ev → Option D}
end
section
variable {X : Cx} {cl : Tb} {tg iter : Expr} {mi : Ev → Option (List D)} {g : D → Ev → Option Ev} {mt : Ev → Option Bool} {pos : Pos}
end
end VI
set_option Elab.async false
set_option linter.all false
set_option maxRecDepth 100000
set_option autoImplicit false
namespace VI
open PySem L2
section
variable {X : Cx} {cl : Tb} {mu : List Nat} {body : List Stmt} {mb : SM} {pos py : Pos} {e : Expr} {me : Ev → Option D}
end
end VI
set_option Elab.async false
set_option linter.all false
set_option maxRecDepth 100000
set_option autoImplicit false
namespace VI
open PySem L2
section
variable {X : Cx} {cl : Tb} {mu : List Nat} {o : Expr} {p : Pl} {apos cpos pos : Pos}
end
end VI
set_option Elab.async false
set_option linter.all false
set_option maxRecDepth 100000
set_option autoImplicit false
namespace VI
open PySem PySem.Spec PyProof.Rows L2
section
variable {X : Cx} {pins : List (Addr × Obj)} {σ : L2.St} {H : Hp} {s : Shared}
end
section
variable {X : Cx} {pins : List (Addr × Obj)} {σ : L2.St} {H : Hp} {s : Shared}
end
section
variable {prog : Program} {w : World} {A : Around} {E : Value → Shared → Prop} {s : Shared} {a f : Addr} {vs : List (Key × Value)} {kz : List (Str × Int)} {Q : Value → Shared → Prop}
end
section
variable {X : Cx} {e : Expr} {te : TE} {ib : Nat} {P c : Addr} {p pos lpos kpos py p1 p2 p3 p4 : Pos}
theorem HEx.rd {H H1 : Hp} {a : Addr} {o : HO} (x : HEx H H1) (n : NT o) (h : Rd H a o) : Rd H1 a o := h.imp (x.keep a o n) fun ⟨u, q⟩ => ⟨u, x.keep a _ (fun ps z => nomatch z) q⟩
end
end VI
set_option Elab.async false
set_option linter.all false
set_option maxRecDepth 100000
set_option autoImplicit false
namespace VI
open PySem L2
section
variable {X : Cx} {cl : Tb} {e : Expr} {me : Ev → Option D} {ib : Nat} {c P : Addr} {p pos lpos kpos py p1 p2 p3 p4 : Pos}
end
structure LamB (base : Heap) (mg : Str → Option Value) (K : PySem.W.Frag) : Prop where
  ok : SaysL K
  tab : LamX.TabB base mg (lamC K) (lamP K)
theorem LamB.code {base : Heap} {mg : Str → Option Value} {K : PySem.W.Frag} {x qual : Str} {params : Arguments} {body : List Stmt} {scope : Scope} {dvs : List V} {kws : List (Str × V)} {f : Addr} {fd : FuncData} (l : LamB base mg K) (Fd : FunD K x qual params body scope dvs kws f fd) (hf : f = He.fAd K ("floor_rows", none)) : fd.code = .ref (lamC K) := by
  obtain ⟨oc, od, dV, kV, doc, pm, an, cdv, ct, osl, _, lk, _⟩ := Fd.ex
  exact l.ok.code hf lk
end VI
set_option Elab.async false
set_option linter.all false
set_option maxRecDepth 100000
set_option autoImplicit false
namespace VI
open PySem L2
end VI
set_option Elab.async false
set_option linter.all false
set_option maxRecDepth 100000
set_option autoImplicit false
namespace VI
open PySem L2
section
variable {L : LogS} {N : Net} {fi : Option Str} {fs : List (Str × Str)} {F E T U B : Str → Int} {s start : Str} {S G P : List Str} {slp : Str → Bool}
theorem soon_le_of {t : Int} (ok : N.Ok) (hs : s ∈ N.names) (h : ∀ l ∈ N.to s, T l.seen + l.least ≤ t → U l.seen + l.least ≤ t) (h1 : N.soonest T s ≤ t) : N.soonest U s ≤ t := by
  rw [soonest_W] at h1 ⊢
  unfold Net.seenW at h1 ⊢
  have hn := (ok.n1 s hs).1
  rw [momG_le hn] at h1 ⊢
  rcases h1 with h1 | ⟨l, hl, k, e, h1⟩ | h1
  · exact .inl h1
  · refine .inr (.inl ⟨l, hl, ?_⟩)
    unfold cW leastW at e ⊢
    split at e
    · cases e
    · rename_i hm
      rw [if_neg hm]
      simp only [Option.map_some, Option.some.injEq] at e ⊢
      refine ⟨_, rfl, h l hl (by omega)⟩
  · refine .inr (.inr ?_)
    have hc : cntLe (dW leastW T) (N.to s) t ≤ cntLe (dW leastW U) (N.to s) t := by
      unfold cntLe
      generalize N.to s = ls at h
      induction ls with
      | nil => simp
      | cons l ls ih =>
        have ih := ih fun x hx => h x (List.mem_cons_of_mem _ hx)
        have hl := h l (List.mem_cons_self ..)
        rw [List.filter_cons, List.filter_cons]
        unfold dW leastW at ih ⊢
        by_cases hm : l.most = none
        · rw [if_pos hm, if_pos hm]
          simp only [Option.map_some, decide_eq_true_eq] at ih ⊢
          split
          · rename_i q
            rw [if_pos (hl q)]
            simp only [List.length_cons]
            exact Nat.succ_le_succ ih
          · split
            · simp only [List.length_cons]; exact Nat.le_succ_of_le ih
            · exact ih
        · rw [if_neg hm, if_neg hm]
          simpa using ih
    omega
def srcB (N : Net) (slp : Str → Bool) (F : Str → Int) (s v : Str) : Bool := match (N.span s v).bind (·.most) with
  | some m => !slp v && decide (F v - m = F s)
  | none => false
def srcF (N : Net) (slp : Str → Bool) (F : Str → Int) (s : Str) : Str := (N.names.find? (srcB N slp F s)).getD s
structure Parts (L : LogS) (fs : List (Str × Str)) (fi : Option Str) (F E : Str → Int) (start : Str) (S G P : List Str) : Prop where
  sn : ∀ s ∈ S, s ∈ L.net.names
  snd : S.Nodup
  s0 : ∀ s ∈ S, F s ≠ 0
  src : ∀ s ∈ S, L.lo s ≠ F s → srcF L.net (slpF fs) F s ∈ S ∨ F (srcF L.net (slpF fs) F s) = 0
  ord : S.Pairwise fun a b => F b ≤ F a
  gn : ∀ s ∈ G, s ∈ L.net.names
  gnd : G.Nodup
  pn : ∀ s ∈ P, s ∈ L.net.names
  pnd : P.Nodup
  dis : ∀ s ∈ G, s ∉ P
  gE : ∀ s ∈ G, E s = raised F fi s
  pE : ∀ s ∈ P, E s ≠ raised F fi s
  clo : ∀ p ∈ P, ∀ l ∈ L.net.to p, l.least < E p → l.seen ∈ G ∨ l.seen ∈ P
  st : start ∈ G ∨ start ∈ P
  gS : ∀ s ∈ G, raised F fi s = F s → s ∈ S ∨ F s = 0
  fS : ∀ s ∈ G, raised F fi s ≠ F s → ∃ f, fi = some f ∧ (f ∈ S ∨ F f = 0)
theorem put_val {B : Str → Int} {s : Str} {v : Int} {x : Str} : put B s v x = if x = s then v else B x := rfl
end
end VI
set_option Elab.async false
set_option linter.all false
set_option maxRecDepth 100000
set_option autoImplicit false
namespace VI
open PySem L2
section
variable {L : LogS} {a b c d : Bool} {has : Str → Bool} {kd : Str → Str} {F : Str → Int} {s : Str}
end
end VI
set_option Elab.async false
set_option linter.all false
set_option maxRecDepth 100000
set_option autoImplicit false
namespace VI
open PySem L2
structure NdS where
  todo : List Str
  g : List Str
  p : List Str
section
variable {L : LogS} {a b c d : Bool} {R E : Str → Int} {start : Str}
structure NdI (N : Net) (R E : Str → Int) (start : Str) (x : NdS) : Prop where
  tn : ∀ s ∈ x.todo, s ∈ N.names
  gn : ∀ s ∈ x.g, s ∈ N.names
  gnd : x.g.Nodup
  pn : ∀ s ∈ x.p, s ∈ N.names
  pnd : x.p.Nodup
  dis : ∀ s ∈ x.g, s ∉ x.p
  gE : ∀ s ∈ x.g, E s = R s
  pE : ∀ s ∈ x.p, E s ≠ R s
  clo : ∀ p ∈ x.p, ∀ l ∈ N.to p, l.least < E p → l.seen ∈ x.g ∨ l.seen ∈ x.p ∨ l.seen ∈ x.todo
  st : start ∈ x.g ∨ start ∈ x.p ∨ start ∈ x.todo
end
end VI
set_option Elab.async false
set_option linter.all false
set_option maxRecDepth 100000
set_option autoImplicit false
namespace VI
open PySem L2
structure FrS where
  todo : List Str
  r : List Str
section
variable {L : LogS} {N : Net} {a b c d : Bool} {lo : Str → Int} {slp : Str → Bool} {F E : Str → Int} {start : Str} {ns : List Str} {has : Str → Bool} {kd : Str → Str}
structure FrI (L : LogS) (slp : Str → Bool) (F : Str → Int) (ns : List Str) (x : FrS) : Prop where
  tn : ∀ s ∈ x.todo, s ∈ L.net.names
  rn : ∀ s ∈ x.r, s ∈ L.net.names
  rnd : x.r.Nodup
  r0 : ∀ s ∈ x.r, F s ≠ 0
  src : ∀ s ∈ x.r, L.lo s ≠ F s → srcF L.net slp F s ∈ x.r ∨ srcF L.net slp F s ∈ x.todo ∨ F (srcF L.net slp F s) = 0
  st : ∀ s ∈ ns, s ∈ x.r ∨ s ∈ x.todo ∨ F s = 0
end
end VI
set_option Elab.async false
set_option linter.all false
set_option maxRecDepth 100000
set_option autoImplicit false
namespace VI
open PySem L2
section
variable {L : LogS} {N : Net} {a b c d e : Bool} {fs : List (Str × Str)} {fi : Option Str} {F E : Str → Int} {start : Str}
end
end VI
set_option Elab.async false
set_option linter.all false
set_option maxRecDepth 100000
set_option autoImplicit false
namespace VI
open PySem L2
section
variable {L : LogS} {N : Net} {a b c d e : Bool} {fs : List (Str × Str)} {fi : Option Str} {F E : Str → Int}
end
end VI
set_option Elab.async false
set_option linter.all false
set_option maxRecDepth 100000
set_option autoImplicit false
namespace VI
open PySem L2
section
variable {L : LogS} {fi : Option Str} {T : Str → Int} {RS : List Row4}
theorem rowsR_mono : ∀ (rs : List Row4) (i : Nat) (st st' : RdSt), rowsR L fi rs i st = .inr st' → ∀ p ∈ st.2.2, p ∈ st'.2.2
  | [], i, st, st', h => by cases h; exact fun p hp => hp
  | r :: rs, i, st, st', h => by
    unfold rowsR at h
    cases hs : stepR L fi st r with
    | none => rw [hs] at h; cases h
    | some st1 =>
      rw [hs] at h
      unfold stepR at hs
      split at hs
      · cases hs
      · simp only [Option.map_eq_some_iff] at hs
        obtain ⟨f, hfo, rfl⟩ := hs
        exact fun p hp => rowsR_mono rs _ _ _ h p (List.mem_append_left _ hp)
def SprQ (L : LogS) (T : Str → Int) (RS : List Row4) (s : Str) (b : Int) : Prop := ∃ r ∈ RS, r.1 = "spread" ∧ r.2.1 = s ∧ r.2.2.2 = b ∧ L.net.soonest T s ≤ T s
def FinQ (L : LogS) (fi : Option Str) (T : Str → Int) (B : Str → Int) : Prop := (∃ s ∈ L.net.names, highV L fi s < B s) ∨ ∃ f, fi = some f ∧ f ∈ L.net.names ∧ L.net.soonest T f ≤ T f
structure SndI (L : LogS) (fi : Option Str) (T : Str → Int) (RS : List Row4) (st : RdSt) : Prop where
  p0 : 0 ≤ st.1
  all : st.1 = 0 → ∀ s ∈ L.net.names, st.2.1 s ≤ T s
  q : ∀ s ∈ L.net.names, st.2.1 s ≤ T s ∨ SprQ L T RS s (st.2.1 s)
  fin : st.1 = 2 → FinQ L fi T st.2.1
theorem snd_rows (ok : L.net.Ok) (hT : ∀ s ∈ L.net.names, 0 ≤ T s ∧ T s ≤ L.net.dawn) (hlo : ∀ s ∈ L.net.names, L.lo s ≤ T s) (hf : ∀ f, fi = some f → f ∈ L.net.names ∧ ∀ s ∈ L.net.names, T f ≤ T s) :
    ∀ (rs : List Row4) (i : Nat) (st st' : RdSt), rowsR L fi rs i st = .inr st' → (∀ r ∈ rs, r ∈ RS) → (∀ s ∈ L.net.names, ∀ k, L.net.fault T s = some k → (s, k) ∉ st'.2.2) → SndI L fi T RS st → SndI L fi T RS st'
  | [], i, st, st', h, _, _, inv => by cases h; exact inv
  | r :: rs, i, st, st', h, hRS, hn, inv => by
    unfold rowsR at h
    cases hs : stepR L fi st r with
    | none => rw [hs] at h; cases h
    | some st1 =>
      rw [hs] at h
      refine snd_rows ok hT hlo hf rs _ st1 st' h (fun x hx => hRS x (by simp [hx])) hn ?_
      have hmono := rowsR_mono rs _ _ _ h
      unfold stepR at hs
      split at hs
      · cases hs
      · rename_i hg
        simp only [Option.map_eq_some_iff] at hs
        obtain ⟨f, hfo, rfl⟩ := hs
        have g1 : ¬ placeF r.1 < st.1 := fun z => hg (.inl z)
        have g3 : r.2.1 ∈ L.net.names := Classical.byContradiction fun z => hg (.inr (.inr (.inl z)))
        have g4 : r.2.2.1 ∈ L.net.names := Classical.byContradiction fun z => hg (.inr (.inr (.inr z)))
        have told : ∀ p ∈ f, p ∈ st'.2.2 := fun p hp => hmono p (List.mem_append_right _ hp)
        have hp0 := inv.p0
        have herr : ∀ s ∈ L.net.names, (s, ("err" : Str)) ∈ st'.2.2 → L.net.look s = false → L.net.soonest T s ≤ T s := fun s hs ht hl => by
          refine Int.not_lt.mp fun z => hn s hs _ (err_iff.mpr ⟨hl, z⟩) ht
        have early : ∀ t : Int, placeF r.1 = 0 → r.2.2.2 = t → t ≤ T r.2.1 → SndI L fi T RS (placeF r.1, (if placeF r.1 < 2 then put st.2.1 r.2.1 (max (st.2.1 r.2.1) r.2.2.2) else st.2.1), st.2.2 ++ f) := fun t hp ht hle => by
          have h0 : st.1 = 0 := by omega
          have ha := inv.all h0
          have hB : ∀ s ∈ L.net.names, put st.2.1 r.2.1 (max (st.2.1 r.2.1) r.2.2.2) s ≤ T s := fun s hs => by
            rw [put_val]
            split
            · rename_i e; subst e; have := ha _ hs; omega
            · exact ha s hs
          refine ⟨by simp only; omega, fun _ s hs => ?_, fun s hs => .inl ?_, fun z => ?_⟩
          · simp only; rw [if_pos (by omega)]; exact hB s hs
          · simp only; rw [if_pos (by omega)]; exact hB s hs
          · simp only at z; omega
        have a0 : ∀ s ∈ L.net.names, placeF r.1 = 0 → st.2.1 s ≤ T s := fun s hs hp => inv.all (by omega) s hs
        unfold toldOf at hfo
        rcases place_cases r.1 with (e | e | e | e | e | e) | ⟨_, e1, e2, e3, e4, e5, e6⟩
        · -- note
          rw [if_neg (by rw [e]; simp), if_pos e] at hfo
          split at hfo
          · rename_i hh
            exact early _ (by rw [e]; exact place_note) hh.2 (hlo _ g3)
          · cases hfo
        · -- line
          rw [if_pos e] at hfo
          split at hfo
          · rename_i m hm
            split at hfo
            · rename_i ht
              cases hfo
              have hp : placeF r.1 = 0 := by rw [e]; exact place_line
              refine early _ hp ht ?_
              cases hsp : L.net.span r.2.1 r.2.2.1 with
              | none => rw [hsp] at hm; cases hm
              | some l =>
                rw [hsp] at hm
                have hm : l.most = some m := hm
                have hl : l ∈ L.net.lines := List.mem_of_find?_eq_some hsp
                have hp2 := List.find?_some hsp
                simp only [Bool.and_eq_true, decide_eq_true_eq] at hp2
                have hns : ¬ L.net.due T r.2.2.1 < T r.2.2.1 := fun z => hn _ g4 _ ((sleep_iff ok g4 (hT _ g4).2).mpr z) (told _ (by simp))
                have := (due_le (t := 0) (hT _ g4).2).mp hns l hl hp2.2 m hm
                rw [hp2.1] at this
                have := a0 _ g4 hp
                omega
            · cases hfo
          · cases hfo
        · -- first
          rw [if_neg (by rw [e]; simp), if_neg (by rw [e]; simp), if_pos e] at hfo
          split at hfo
          · rename_i hh
            have hp : placeF r.1 = 0 := by rw [e]; exact place_first
            refine early _ hp hh.2 ?_
            have := a0 _ g4 hp
            have := (hf _ hh.1).2 _ g3
            omega
          · cases hfo
        · -- spread
          rw [if_neg (by rw [e]; simp), if_neg (by rw [e]; simp), if_neg (by rw [e]; simp), if_pos e] at hfo
          split at hfo
          · rename_i hh
            cases hfo
            have hp : placeF r.1 = 1 := by rw [e]; exact place_spread
            refine ⟨by simp only; omega, fun z => by simp only at z; omega, fun s hs => ?_, fun z => by simp only at z; omega⟩
            simp only
            rw [if_pos (by omega), put_val]
            split
            · rename_i es
              by_cases hle : r.2.2.2 ≤ st.2.1 r.2.1
              · rw [Int.max_eq_left hle, ← es]; exact inv.q s hs
              · rw [Int.max_eq_right (by omega)]
                exact .inr ⟨r, hRS r (by simp), e, es.symm, rfl, herr s hs (told _ (by rw [es]; simp)) (by rw [es]; exact hh.2.1)⟩
            · exact inv.q s hs
          · cases hfo
        · -- high
          rw [if_neg (by rw [e]; simp), if_neg (by rw [e]; simp), if_neg (by rw [e]; simp), if_neg (by rw [e]; simp), if_pos e] at hfo
          split at hfo
          · rename_i hh
            have hp : placeF r.1 = 2 := by rw [e]; exact place_high
            refine ⟨by simp only; omega, fun z => by simp only at z; omega, fun s hs => ?_, fun _ => .inl ⟨_, g3, ?_⟩⟩
            · simp only; rw [if_neg (by omega)]; exact inv.q s hs
            · simp only; rw [if_neg (by omega)]; have := hh.2.1; have := hh.2.2; omega
          · cases hfo
        · -- ring
          rw [if_neg (by rw [e]; simp), if_neg (by rw [e]; simp), if_neg (by rw [e]; simp), if_neg (by rw [e]; simp), if_neg (by rw [e]; simp), if_pos e] at hfo
          split at hfo
          · rename_i hh
            cases hfo
            have hp : placeF r.1 = 2 := by rw [e]; exact place_ring
            refine ⟨by simp only; omega, fun z => by simp only at z; omega, fun s hs => ?_, fun _ => .inr ⟨_, hh.2.1, g3, herr _ g3 (told _ (by simp)) hh.2.2.1⟩⟩
            simp only; rw [if_neg (by omega)]; exact inv.q s hs
          · cases hfo
        · rw [if_neg e2, if_neg e1, if_neg e3, if_neg e4, if_neg e5, if_neg e6] at hfo
          cases hfo
theorem lateR_all {N : Net} {B : Str → Int} : ∀ {rs : List Row4} {i : Nat}, lateR N B rs i = none → ∀ r ∈ rs, r.1 = "spread" → r.2.2.2 ≤ N.soonest B r.2.1
  | [], i, _, r, hr, _ => nomatch hr
  | x :: rs, i, h, r, hr, hk => by
    unfold lateR at h
    split at h
    · cases h
    · rename_i hno
      rcases List.mem_cons.mp hr with rfl | hr
      · exact Int.not_lt.mp fun z => hno ⟨hk, z⟩
      · exact lateR_all h r hr hk
theorem chain_sound (ok : L.net.Ok) {rs : List Row4} {named : List (Str × Str)} (h : readC L fi rs = .inr named) (hT : ∀ s ∈ L.net.names, 0 ≤ T s ∧ T s ≤ L.net.dawn) (hin : ∀ s ∈ L.net.names, L.lo s ≤ T s ∧ T s ≤ L.hi s)
    (hf : ∀ f, fi = some f → f ∈ L.net.names ∧ T f < L.net.dawn ∧ ∀ s ∈ L.net.names, T f ≤ T s) : ∃ s ∈ L.net.names, ∃ k, L.net.fault T s = some k ∧ (s, k) ∈ named := by
  refine Classical.byContradiction fun hno => ?_
  unfold readC at h
  split at h
  · cases h
  · rename_i st hr
    split at h
    · cases h
    · rename_i hp
      split at h
      · cases h
      · rename_i hl
        cases h
        have hn : ∀ s ∈ L.net.names, ∀ k, L.net.fault T s = some k → (s, k) ∉ st.2.2 := fun s hs k hk z => by
          refine hno ⟨s, hs, k, hk, ?_⟩
          unfold namedR
          refine List.mem_flatMap.mpr ⟨s, hs, List.mem_map.mpr ⟨k, List.mem_filter.mpr ⟨?_, by simpa using z⟩, rfl⟩⟩
          unfold Net.fault at hk
          split at hk
          · cases hk; simp
          · split at hk
            · cases hk; simp
            · cases hk
        have inv := snd_rows (RS := rs) ok hT (fun s hs => (hin s hs).1) (fun f e => ⟨(hf f e).1, (hf f e).2.2⟩) rs 0 start0 st hr (fun r hr => hr) hn ⟨Int.le_refl _, fun _ s hs => (hT s hs).1, fun s hs => .inl (hT s hs).1, fun z => by cases z⟩
        have hB : ∀ (n : Nat), ∀ s ∈ L.net.names, (T s).toNat = n → st.2.1 s ≤ T s := by
          intro n
          induction n using Nat.strongRecOn with
          | _ n ih =>
            intro s hs hn'
            rcases inv.q s hs with z | ⟨r, hr', e1, e2, e3, e4⟩
            · exact z
            · refine Int.not_lt.mp fun hlt => ?_
              have h1 := lateR_all hl r hr' e1
              rw [e2, e3] at h1
              have h2 := soon_le_of (T := T) (U := st.2.1) (t := T s) ok hs (fun l hl' hle => by
                have o := ok.lok l (to_mem hl').1
                have h3 := o.l1
                have h4 := (hT l.seen o.s).1
                have h5 := (hT s hs).1
                have := ih (T l.seen).toNat (by omega) l.seen o.s rfl
                omega) e4
              omega
        have hp2 := place_two
        have hst : st.1 = 2 := by
          have : st.1 ≤ 2 := by
            have : ∀ (rs : List Row4) (i : Nat) (a b : RdSt), rowsR L fi rs i a = .inr b → a.1 ≤ 2 → b.1 ≤ 2 := by
              intro rs
              induction rs with
              | nil => intro i a b h h2; cases h; exact h2
              | cons r rs ih =>
                intro i a b h h2
                unfold rowsR at h
                cases hs : stepR L fi a r with
                | none => rw [hs] at h; cases h
                | some st1 =>
                  rw [hs] at h
                  refine ih _ _ _ h ?_
                  unfold stepR at hs
                  split at hs
                  · cases hs
                  · simp only [Option.map_eq_some_iff] at hs
                    obtain ⟨f, _, rfl⟩ := hs
                    exact place_two _
            exact this rs 0 start0 st hr (by unfold start0; simp)
          omega
        rcases inv.fin hst with ⟨s, hs, hlt⟩ | ⟨f, e, mf, hle⟩
        · have h1 := hB _ s hs rfl
          have h2 := (hin s hs).2
          unfold highV at hlt
          split at hlt
          · rename_i e; have := (hf s e).2.1; omega
          · omega
        · have := soon_lo (T := T) ok mf (t := T f) (hf f e).2.2 (hf f e).2.1
          omega
end
end VI
set_option Elab.async false
set_option linter.all false
set_option maxRecDepth 100000
set_option autoImplicit false
namespace VI
open PySem L2
end VI
set_option Elab.async false
set_option linter.all false
set_option maxRecDepth 100000
set_option autoImplicit false
namespace VI
open PySem L2
section
variable {L : LogS} {N : Net} {fi : Option Str} {B : Str → Int} {r : Row4} {a b c d e f : Bool} {s : Str}
end
end VI
set_option Elab.async false
set_option linter.all false
set_option maxRecDepth 100000
set_option autoImplicit false
namespace VI.FS
open PySem L2
section
variable {ns : List Str} {tr : Str → Bool} {fs : List Pt} {k m : Nat} {s : Str}
def ixS (ns : List Str) (s : Str) : Int := ((ns.idxOf s : Nat) : Int)
def aft (ns : List Str) (tr : Str → Bool) (fs : List Pt) : List Str := match fs.getLast? with
  | none => ns.filter fun s => !tr s
  | some p => (ns.drop (ns.idxOf p.1 + 1)).filter fun s => !tr s
def two (fs : List Pt) (s : Str) : List (List Pt) := [fs ++ [((s, "err") : Pt)], fs ++ [((s, "sleep") : Pt)]]
def ext (ns : List Str) (tr : Str → Bool) (fs : List Pt) : List (List Pt) := (aft ns tr fs).flatMap (two fs)
def lev (ns : List Str) (tr : Str → Bool) : Nat → List (List Pt)
  | 0 => [[]]
  | k + 1 => (lev ns tr k).flatMap (ext ns tr)
def lvs (ns : List Str) (tr : Str → Bool) : Nat → List (List Pt)
  | 0 => []
  | k + 1 => lvs ns tr k ++ lev ns tr (k + 1)
def dig (ns : List Str) (p : Pt) : Int := 1 + 2 * ixS ns p.1 + (if p.2 = "sleep" then 1 else 0)
def code (ns : List Str) (fs : List Pt) : Int := fs.foldl (fun c p => c * 17 + dig ns p) 0
theorem idx_get {i : Nat} (nd : ns.Nodup) (h : ns[i]? = some s) : ns.idxOf s = i := by
  have h1 := List.idxOf_lt_length_of_mem (List.mem_of_getElem? h)
  exact L2.nodup_ix nd (by rw [List.getElem?_eq_getElem h1, List.getElem_idxOf]) h
theorem ix_pw (nd : ns.Nodup) : ns.Pairwise fun s t => ixS ns s < ixS ns t := by
  rw [List.pairwise_iff_getElem]
  intro i j hi hj hij
  unfold ixS
  rw [idx_get nd (List.getElem?_eq_getElem hi), idx_get nd (List.getElem?_eq_getElem hj)]
  omega
structure SetOk (ns : List Str) (tr : Str → Bool) (k : Nat) (fs : List Pt) : Prop where
  len : fs.length = k
  mem : ∀ p ∈ fs, p.1 ∈ ns ∧ tr p.1 = false ∧ (p.2 = "err" ∨ p.2 = "sleep")
  pw : fs.Pairwise fun p q => ixS ns p.1 < ixS ns q.1
end
section
variable {ns : List Str} {tr : Str → Bool} {fs : List Pt} {k m : Nat} {s : Str} {L : LogS} {b c d e : Bool}
end
section
variable {ns : List Str} {tr : Str → Bool} {fs : List Pt} {k m : Nat} {s : Str} {L : LogS} {b c d e : Bool}
end
section
variable {ns : List Str} {tr : Str → Bool} {fs : List Pt} {k m : Nat} {s : Str} {L : LogS} {b c d e : Bool}
end
section
variable {ns : List Str} {tr : Str → Bool} {fs : List Pt} {k m : Nat} {s : Str} {L : LogS} {b c d e : Bool} {ts : List Str}
end
end VI.FS
set_option Elab.async false
set_option linter.all false
set_option maxRecDepth 100000
set_option autoImplicit false
namespace VI
open PySem L2
section
variable {fs : List Pt} {ls : List (List Pt)} {l : List Pt} {b c d e : Bool} {p : Pt}
def hitB (fs l : List Pt) : Bool := fs.any fun p => decide (p ∈ l)
def hitsB (fs : List Pt) (ls : List (List Pt)) : Bool := ls.all fun l => hitB fs l
end
section
variable {fs : List Pt} {ls : List (List Pt)} {l : List Pt} {b c d e : Bool} {p : Pt}
end
abbrev Tb2 := List Str × (Str → Int)
section
variable {b c d e : Bool} {fs : Option (List Pt)} {t : Option Tb2} {cs : List (List Row4)} {names : List Str} {row : List Int}
end
section
variable {b c d e : Bool} {fs : Option (List Pt)} {t : Option Tb2} {cs : List (List Row4)} {names : List Str} {row : List Int} {x y z : D} {i : Nat} {π : List Nat}
end
end VI
set_option Elab.async false
set_option linter.all false
set_option maxRecDepth 100000
set_option autoImplicit false
namespace VI
open PySem L2
section
variable {L : LogS} {N : Net} {a b c d e : Bool} {fs : List Pt} {fi : Option Str} {cs : List (List Row4)} {m : Nat}
def nmC (N : Net) (cs : List (List Row4)) : List (List Pt) := cs.map (namedC N)
def ChOk (L : LogS) (fi : Option Str) (rs : List Row4) : Prop := readC L fi rs = .inr (namedC L.net rs) ∧ rs.length ≤ 25
def setsM (L : LogS) (m : Nat) : List (List Pt) := [] :: FS.lvs L.net.names L.tr m
structure DgSome (L : LogS) (fi : Option Str) (cs : List (List Row4)) (fs : List Pt) (E : Str → Int) : Prop where
  early : Early L fs fi (some E)
  ins : insideB L.net.names L.lo L.hi E = true
structure Diag (L : LogS) (m : Nat) (fi : Option Str) (o : Option (List Pt × (Str → Int))) (cs : List (List Row4)) : Prop where
  ch : ∀ rs ∈ cs, ChOk L fi rs
  len : cs.length ≤ 577
  non : o = none → ∀ g ∈ setsM L m, hitsB g (nmC L.net cs) = false
  som : ∀ fs E, o = some (fs, E) → ∃ pre post, setsM L m = pre ++ fs :: post ∧ (∀ g ∈ pre, hitsB g (nmC L.net cs) = false) ∧ Early L fs fi (some E) ∧ insideB L.net.names L.lo L.hi E = true
end
end VI
set_option Elab.async false
set_option linter.all false
set_option maxRecDepth 100000
set_option autoImplicit false
namespace VI
open PySem L2
section
variable {L : LogS} {N : Net} {fs : List Pt} {fi : Option Str} {cs : List (List Row4)} {m : Nat} {T E : Str → Int} {ns : List Str} {tr : Str → Bool}
theorem lev_in (nd : ns.Nodup) : ∀ (n : Nat) (fs : List Pt), FS.SetOk ns tr n fs → fs ∈ FS.lev ns tr n
  | 0, fs, h => by
    have := List.length_eq_zero_iff.mp h.len
    subst this; simp [FS.lev]
  | n + 1, fs, h => by
    have hne : fs ≠ [] := fun e => by have := h.len; rw [e] at this; simp at this
    obtain ⟨gs, p, rfl⟩ : ∃ gs p, fs = gs ++ [p] := ⟨fs.dropLast, fs.getLast hne, (List.dropLast_concat_getLast hne).symm⟩
    obtain ⟨w1, w2⟩ := List.pairwise_append.mp h.pw
    have ih := lev_in nd n gs ⟨by have := h.len; simp at this; omega, fun q hq => h.mem q (by simp [hq]), w1⟩
    obtain ⟨s, w⟩ := p
    obtain ⟨m1, m2, m3⟩ := h.mem (s, w) (by simp)
    simp only at m1 m2 m3
    unfold FS.lev
    refine List.mem_flatMap.mpr ⟨gs, ih, ?_⟩
    unfold FS.ext
    refine List.mem_flatMap.mpr ⟨s, ?_, ?_⟩
    · unfold FS.aft
      split
      · exact List.mem_filter.mpr ⟨m1, by simp [m2]⟩
      · rename_i q e
        obtain ⟨xs, rfl⟩ := List.getLast?_eq_some_iff.mp e
        have hlt := w2.2 q (by simp) (s, w) (by simp)
        refine List.mem_filter.mpr ⟨?_, by simp [m2]⟩
        unfold FS.ixS at hlt
        simp only at hlt
        have hi : ns.idxOf s < ns.length := List.idxOf_lt_length_iff.mpr m1
        have hg : ns[ns.idxOf s] = s := List.getElem_idxOf hi
        refine List.mem_iff_getElem.mpr ⟨ns.idxOf s - (ns.idxOf q.1 + 1), by simp; omega, ?_⟩
        rw [List.getElem_drop]
        have : ns.idxOf q.1 + 1 + (ns.idxOf s - (ns.idxOf q.1 + 1)) = ns.idxOf s := by omega
        simp only [this]
        exact hg
    · unfold FS.two
      rcases m3 with e | e <;> simp [e]
theorem lvs_in : ∀ (k n : Nat), 1 ≤ n → n ≤ k → ∀ fs ∈ FS.lev ns tr n, fs ∈ FS.lvs ns tr k
  | 0, n, h1, h2, _, _ => by omega
  | k + 1, n, h1, h2, fs, h => by
    unfold FS.lvs
    rcases Nat.lt_or_ge n (k + 1) with z | z
    · exact List.mem_append_left _ (lvs_in k n h1 (by omega) fs h)
    · have : n = k + 1 := by omega
      subst this
      exact List.mem_append_right _ h
theorem setsM_in (nd : L.net.names.Nodup) {n : Nat} (h : FS.SetOk L.net.names L.tr n fs) (hn : n ≤ m) : fs ∈ setsM L m := by
  unfold setsM
  rcases Nat.eq_zero_or_pos n with z | z
  · subst z
    rw [List.length_eq_zero_iff.mp h.len]; simp
  · exact List.mem_cons_of_mem _ (lvs_in m n z hn fs (lev_in nd n fs h))
theorem mem_faults {s k : Str} (hs : s ∈ N.names) (h : N.fault T s = some k) : (s, k) ∈ N.faults T := by
  unfold Net.faults
  exact List.mem_filterMap.mpr ⟨s, hs, by rw [h]; rfl⟩
theorem faults_pw (nd : N.names.Nodup) : (N.faults T).Pairwise fun p q => FS.ixS N.names p.1 < FS.ixS N.names q.1 := by
  unfold Net.faults
  refine List.pairwise_filterMap.mpr ((FS.ix_pw nd).imp fun {a b} hlt => fun p hp q hq => ?_)
  cases h1 : N.fault T a with
  | none => rw [h1] at hp; cases hp
  | some k1 =>
    cases h2 : N.fault T b with
    | none => rw [h2] at hq; cases hq
    | some k2 =>
      rw [h1] at hp; rw [h2] at hq
      cases hp; cases hq
      exact hlt
theorem faults_set (nd : L.net.names.Nodup) (hu : ∀ p ∈ L.net.faults T, L.tr p.1 = false) : FS.SetOk L.net.names L.tr (L.net.faults T).length (L.net.faults T) where
  len := rfl
  mem p hp := ⟨(faults_mem hp).1, hu p hp, fault_kind (faults_mem hp).2⟩
  pw := faults_pw nd
structure Story (L : LogS) (m : Nat) (fi : Option Str) (T : Str → Int) : Prop where
  rng : ∀ s ∈ L.net.names, 0 ≤ T s ∧ T s ≤ L.net.dawn
  ins : ∀ s ∈ L.net.names, L.lo s ≤ T s ∧ T s ≤ L.hi s
  fst : ∀ f, fi = some f → f ∈ L.net.names ∧ T f < L.net.dawn ∧ ∀ s ∈ L.net.names, T f ≤ T s
  unt : ∀ p ∈ L.net.faults T, L.tr p.1 = false
  cnt : (L.net.faults T).length ≤ m
theorem Story.hits (ok : L.net.Ok) (h : Story L m fi T) (hc : ∀ rs ∈ cs, ChOk L fi rs) : hitsB (L.net.faults T) (nmC L.net cs) = true := by
  unfold hitsB nmC
  rw [List.all_eq_true]
  intro l hl
  obtain ⟨rs, hr, rfl⟩ := List.mem_map.mp hl
  obtain ⟨s, hs, k, h1, h2⟩ := chain_sound ok (hc rs hr).1 h.rng h.ins h.fst
  unfold hitB
  rw [List.any_eq_true]
  exact ⟨(s, k), mem_faults hs h1, by simpa using h2⟩
theorem Story.set (ok : L.net.Ok) (h : Story L m fi T) : L.net.faults T ∈ setsM L m := setsM_in ok.nd (faults_set ok.nd h.unt) h.cnt
theorem Story.fits (h : Story L m fi T) : Fits L.net L.lo (L.net.faults T) fi T := ⟨h.rng, fun s hs => (h.ins s hs).1, fun s hs k e => mem_faults hs e, fun f e => (h.fst f e).2⟩
end
end VI
set_option Elab.async false
set_option linter.all false
set_option maxRecDepth 100000
set_option autoImplicit false
namespace VI
open PySem L2
section
variable {a b c d e : Bool} {N : Net} {row : List Int}
end
end VI
set_option Elab.async false
set_option linter.all false
set_option maxRecDepth 100000
set_option autoImplicit false
namespace VI
open PySem L2
end VI
set_option Elab.async false
set_option linter.all false
set_option maxRecDepth 100000
set_option autoImplicit false
namespace VI.FS
open PySem L2
section
variable {ns : List Str} {tr : Str → Bool} {fs : List Pt} {k m : Nat} {s : Str} {b c d e : Bool}
end
section
variable {us : List Str} {fs : List Pt} {k m : Nat} {s : Str} {b c d e : Bool}
end
section
variable {us : List Str} {fs : List Pt} {k m : Nat} {s : Str} {b c d e : Bool}
end
section
variable {us : List Str} {fs : List Pt} {k m : Nat} {s : Str} {b c d e : Bool}
end
section
variable {us : List Str} {fs : List Pt} {k m : Nat} {s : Str} {b c d e : Bool}
end
end VI.FS
set_option Elab.async false
set_option linter.all false
set_option maxRecDepth 100000
set_option autoImplicit false
namespace VI
open PySem L2
section
variable {a b c d e g : Bool} {N : Net} {L : LogS} {lo hi T : Str → Int} {row : List Int} {ts : List Str}
end
end VI
set_option Elab.async false
set_option linter.all false
set_option maxRecDepth 100000
set_option autoImplicit false
namespace VI
open PySem L2
section
variable {a b c d e g : Bool} {N : Net} {L : LogS} {lo hi T : Str → Int} {row : List Int} {ts : List Str}
structure QInv (names : List Str) (k : Nat) (ls : List Line) : Prop where
  len : ls.length ≤ 2 * k
  ok : ∀ l ∈ ls, l.Ok names
  nd : (ls.map Line.pair).Nodup
  ix : ∀ l ∈ ls, ∃ j ≤ k, names[j]? = some l.viewer ∧ ∃ i < j, names[i]? = some l.seen
theorem QInv.one {names : List Str} {k : Nat} {ls : List Line} (i : QInv names k ls) (nd : names.Nodup) {l : Line} (h : l.Ok names) {j : Nat} (hj : j < k + 1) (h1 : names[j]? = some l.seen) (h2 : names[k + 1]? = some l.viewer) : QInv names (k + 1) (ls ++ [l]) := by
  refine ⟨by have := i.len; simp; omega, fun m hm => ?_, pairs_app i.nd fun m hm e => ?_, fun m hm => ?_⟩
  · rcases List.mem_append.mp hm with hm | hm
    · exact i.ok m hm
    · have : m = l := by simpa using hm
      subst this; exact h
  · obtain ⟨q, hq, q1, _⟩ := i.ix m hm
    obtain ⟨e1, e2⟩ := pair_inj.mp e
    rw [e2] at q1
    have a1 := L2.nodup_ix nd q1 h2
    omega
  · rcases List.mem_append.mp hm with hm | hm
    · obtain ⟨q, hq, z⟩ := i.ix m hm; exact ⟨q, by omega, z⟩
    · have : m = l := by simpa using hm
      subst this; exact ⟨k + 1, by omega, h2, j, hj, h1⟩
theorem QInv.two {names : List Str} {k : Nat} {ls : List Line} (i : QInv names k ls) (nd : names.Nodup) {l l' : Line} (h : l.Ok names) (h' : l'.Ok names) {j j' : Nat} (hj : j < k + 1) (hj' : j' < k + 1) (hne : j ≠ j') (h1 : names[j]? = some l.seen) (h2 : names[k + 1]? = some l.viewer) (h1' : names[j']? = some l'.seen) (h2' : names[k + 1]? = some l'.viewer) : QInv names (k + 1) (ls ++ [l] ++ [l']) := by
  have q := i.one nd h hj h1 h2
  refine ⟨by have := i.len; simp; omega, fun m hm => ?_, pairs_app q.nd fun m hm e => ?_, fun m hm => ?_⟩
  · rcases List.mem_append.mp hm with hm | hm
    · exact q.ok m hm
    · have : m = l' := by simpa using hm
      subst this; exact h'
  · obtain ⟨e1, e2⟩ := pair_inj.mp e
    rcases List.mem_append.mp hm with hm | hm
    · obtain ⟨z, hz, q1, _⟩ := i.ix m hm
      rw [e2] at q1
      have a1 := L2.nodup_ix nd q1 h2'
      omega
    · have : m = l := by simpa using hm
      subst this
      rw [e1] at h1
      exact hne (L2.nodup_ix nd h1 h1')
  · rcases List.mem_append.mp hm with hm | hm
    · obtain ⟨z, hz, q⟩ := q.ix m hm; exact ⟨z, by omega, q⟩
    · have : m = l' := by simpa using hm
      subst this; exact ⟨k + 1, by omega, h2', j', hj', h1'⟩
end
end VI
set_option Elab.async false
set_option linter.all false
set_option maxRecDepth 100000
set_option autoImplicit false
namespace VI
open PySem L2
section
variable {L : LogS} {m : Nat} {a b c d e : Bool} {fs : List Pt} {ks : List Str}
structure PsOk (ks : List Str) (fs : List Pt) : Prop where
  n : ∀ p ∈ fs, NameOk p.1
  k : ∀ p ∈ fs, p.2 = "err" ∨ p.2 = "sleep"
theorem PsOk.of (ok : L.net.Ok) (h : FL L.net fs) : PsOk ks fs := ⟨fun p hp => ok.nok _ (h.nam p hp), h.kd⟩
theorem PsOk.fit {n : Nat} (h : PsOk ks fs) : D.fitL (n + 2) (fs.map fltD) = true := flts_fit h.n h.k
end
end VI
set_option Elab.async false
set_option linter.all false
set_option maxRecDepth 100000
set_option autoImplicit false
namespace VI
open PySem L2
section
variable {a b c d e g h : Bool} {N : Net} {L : LogS} {lo hi T : Str → Int} {row : List Int} {ts : List Str} {m : Nat} {fi : Option Str}
end
end VI
set_option Elab.async false
set_option linter.all false
set_option maxRecDepth 100000
set_option autoImplicit false
namespace VI
open PySem L2
section
variable {X : Cx} {cl : Tb} {K : PySem.W.Frag}
end
section
variable {X : Cx} {cl : Tb} {mu : List Nat}
end
end VI
set_option Elab.async false
set_option linter.all false
set_option maxRecDepth 100000
set_option autoImplicit false
namespace VI
open PySem L2 PySem.Spec PyProof.Rows
end VI
set_option Elab.async false
set_option linter.all false
set_option maxRecDepth 100000
set_option autoImplicit false
namespace VI
open PySem L2 PySem.Spec PyProof.Rows
end VI
set_option Elab.async false
set_option linter.all false
set_option maxRecDepth 100000
set_option autoImplicit false
namespace VI
open PySem L2
section
variable {X : Cx} {cl : Tb} {mu : List Nat} {es : List Expr} {gs : List D → Ev → Option Ev} {pos : Pos}
end
end VI
set_option Elab.async false
set_option linter.all false
set_option maxRecDepth 100000
set_option autoImplicit false
namespace VI
open PySem L2
section
variable {X : Cx} {cl : Tb} {mu : List Nat} {e1 e0 : Expr} {p1 p0 : Pl} {m1 m2 m3 : Stmt} {tail : List Stmt} {mm mr : SM} {pos1 pos0 q1 q0 : Pos}
end
end VI
set_option Elab.async false
set_option linter.all false
set_option maxRecDepth 100000
set_option autoImplicit false
namespace VI
open PySem L2
end VI
set_option Elab.async false
set_option linter.all false
set_option maxRecDepth 100000
set_option autoImplicit false
namespace VI
open PySem L2
section
variable {X : Cx} {cl : Tb} {e : Expr} {es : List Expr} {g : D → Ev → Option Ev} {gs : List D → Ev → Option Ev} {vs : List Nat} {pos : Pos}
end
end VI
set_option Elab.async false
set_option linter.all false
set_option maxRecDepth 100000
set_option autoImplicit false
namespace VI
open PySem L2
section
variable {a b c d e g h p q : Bool} {L : LogS} {N : Net} {ts : List Str} {m : Nat} {fi : Option Str} {cs : List (List Row4)} {T : Str → Int}
end
end VI
set_option Elab.async false
set_option linter.all false
set_option maxRecDepth 100000
set_option autoImplicit false
namespace VI
open PySem L2
@[simp] theorem intD_t : intD [.bl true] = some (.int 1) := (rfl)
@[simp] theorem intD_f : intD [.bl false] = some (.int 0) := (rfl)
section
variable {a b c d e g h : Bool} {L : LogS} {N : Net} {ts : List Str} {m : Nat} {T : Str → Int}
end
end VI
set_option Elab.async false
set_option linter.all false
set_option maxRecDepth 100000
set_option autoImplicit false
namespace VI
open PySem L2
section
variable {a b c d e g h : Bool} {L : LogS} {N : Net} {ns : List Str} {tr : Str → Bool} {ts : List Str} {m j k : Nat} {T : Str → Int} {fs gs : List Pt} {s : Str}
theorem ix_inj (nd : ns.Nodup) {s t : Str} (hs : s ∈ ns) (ht : t ∈ ns) (h : FS.ixS ns s = FS.ixS ns t) : s = t := by
  unfold FS.ixS at h
  have h : ns.idxOf s = ns.idxOf t := by omega
  obtain ⟨i, hi⟩ := List.getElem?_of_mem hs
  obtain ⟨j, hj⟩ := List.getElem?_of_mem ht
  rw [FS.idx_get nd hi, FS.idx_get nd hj] at h
  subst h
  rw [hi] at hj
  exact Option.some.inj hj
def insP (ns : List Str) (p : Pt) (fs : List Pt) : List Pt := (fs.filter fun q => decide (FS.ixS ns q.1 < FS.ixS ns p.1)) ++ p :: (fs.filter fun q => decide (FS.ixS ns p.1 < FS.ixS ns q.1))
theorem filt_len {α : Type} {p q : α → Bool} : ∀ {l : List α}, (∀ x ∈ l, (p x = true ∧ q x = false) ∨ (p x = false ∧ q x = true)) → (l.filter p).length + (l.filter q).length = l.length
  | [], _ => rfl
  | x :: l, h => by
    have ih := filt_len (l := l) fun y hy => h y (by simp [hy])
    rcases h x (by simp) with ⟨h1, h2⟩ | ⟨h1, h2⟩
    · rw [List.filter_cons_of_pos h1, List.filter_cons_of_neg (by simp [h2])]; simp; omega
    · rw [List.filter_cons_of_neg (by simp [h1]), List.filter_cons_of_pos h2]; simp; omega
theorem ins_ok (nd : ns.Nodup) (h : FS.SetOk ns tr k fs) (hs : s ∈ ns) (ht : tr s = false) (hn : ∀ p ∈ fs, p.1 ≠ s) : FS.SetOk ns tr (k + 1) (insP ns (s, "err") fs) ∧ ∀ p ∈ fs, p ∈ insP ns (s, "err") fs := by
  have hne : ∀ p ∈ fs, FS.ixS ns p.1 ≠ FS.ixS ns s := fun p hp e => hn p hp (ix_inj nd (h.mem p hp).1 hs e)
  have hsub : ∀ p ∈ fs, p ∈ insP ns (s, "err") fs := fun p hp => by
    unfold insP
    rcases Int.lt_or_gt_of_ne (hne p hp) with q | q
    · exact List.mem_append.mpr (.inl (List.mem_filter.mpr ⟨hp, by simpa using q⟩))
    · exact List.mem_append.mpr (.inr (List.mem_cons.mpr (.inr (List.mem_filter.mpr ⟨hp, by simpa using q⟩))))
  refine ⟨⟨?_, ?_, ?_⟩, hsub⟩
  · unfold insP
    have := filt_len (p := fun q : Pt => decide (FS.ixS ns q.1 < FS.ixS ns s)) (q := fun q : Pt => decide (FS.ixS ns s < FS.ixS ns q.1)) (l := fs) fun x hx => by
      rcases Int.lt_or_gt_of_ne (hne x hx) with q | q
      · exact .inl ⟨by simpa using q, by simp; omega⟩
      · exact .inr ⟨by simp; omega, by simpa using q⟩
    have := h.len
    simp only [List.length_append, List.length_cons]
    omega
  · intro p hp
    unfold insP at hp
    rcases List.mem_append.mp hp with hp | hp
    · exact h.mem p (List.mem_filter.mp hp).1
    · rcases List.mem_cons.mp hp with rfl | hp
      · exact ⟨hs, ht, .inl rfl⟩
      · exact h.mem p (List.mem_filter.mp hp).1
  · unfold insP
    rw [List.pairwise_append]
    refine ⟨h.pw.sublist List.filter_sublist, List.pairwise_cons.mpr ⟨fun q hq => ?_, h.pw.sublist List.filter_sublist⟩, fun p hp q hq => ?_⟩
    · simpa using (List.mem_filter.mp hq).2
    · have h1 : FS.ixS ns p.1 < FS.ixS ns s := by simpa using (List.mem_filter.mp hp).2
      rcases List.mem_cons.mp hq with rfl | hq
      · exact h1
      · have h2 : FS.ixS ns s < FS.ixS ns q.1 := by simpa using (List.mem_filter.mp hq).2
        omega
theorem set_names (nd : ns.Nodup) (h : FS.SetOk ns tr k fs) : (fs.map (·.1)).Nodup := by
  have := h.pw
  rw [List.nodup_iff_pairwise_ne, List.pairwise_map]
  exact this.imp fun {p q} hlt e => by rw [e] at hlt; exact Int.lt_irrefl _ hlt
theorem grow (nd : ns.Nodup) (hg : FS.SetOk ns tr k gs) : ∀ (i : Nat) (j : Nat) (fs : List Pt), FS.SetOk ns tr j fs → j + i = k → ∃ fs', FS.SetOk ns tr k fs' ∧ ∀ p ∈ fs, p ∈ fs'
  | 0, j, fs, h, e => by
    have : j = k := by omega
    subst this; exact ⟨fs, h, fun _ z => z⟩
  | i + 1, j, fs, h, e => by
    obtain ⟨s, hs, hn⟩ : ∃ s, s ∈ gs.map (·.1) ∧ s ∉ fs.map (·.1) := Classical.byContradiction fun hno => by
      have hsub : ∀ s ∈ gs.map (·.1), s ∈ fs.map (·.1) := fun s hs => Classical.byContradiction fun z => hno ⟨s, hs, z⟩
      have := (set_names nd hg).length_le_of_subset hsub
      have h1 := hg.len
      have h2 := h.len
      simp at this
      omega
    obtain ⟨p, hp, rfl⟩ := List.mem_map.mp hs
    obtain ⟨h1, h2⟩ := ins_ok nd h (hg.mem p hp).1 (hg.mem p hp).2.1 fun q hq e => hn (List.mem_map.mpr ⟨q, hq, e⟩)
    obtain ⟨fs', h3, h4⟩ := grow nd hg i (j + 1) _ h1 (by omega)
    exact ⟨fs', h3, fun q hq => h4 q (h2 q hq)⟩
def fullN (L : LogS) (m : Nat) : Nat := ((setsM L m).getLast?.getD []).length
def fullS (L : LogS) (m : Nat) : List (List Pt) := (setsM L m).filter fun f => decide (f.length = fullN L m)
end
end VI
set_option Elab.async false
set_option linter.all false
set_option maxRecDepth 100000
set_option autoImplicit false
namespace VI
open PySem L2
section
variable {a b c d e g h : Bool} {L : LogS} {N : Net} {ts : List Str} {m j k : Nat} {T : Str → Int} {fs gs : List Pt} {s : Str} {B : Str → Int}
structure Tabs (L : LogS) (m : Nat) (EE : List Pt → Str → Int) : Prop where
  e : ∀ g ∈ fullS L m, Early L g none (some (EE g))
  t : ∀ g ∈ fullS L m, ap f_d_earliest_table [logD false L, .lst false (g.map fltD), .non] = some (tblD true L.net.names (EE g))
theorem inside_iff {E : Str → Int} : insideB N.names B T E = true ↔ ∀ s ∈ N.names, B s ≤ E s ∧ E s ≤ T s := by
  unfold insideB inB
  rw [List.all_eq_true]
  exact forall_congr' fun s => forall_congr' fun _ => by simp
theorem Story.fitsG (h : Story L m none T) {g : List Pt} (hg : ∀ p ∈ L.net.faults T, p ∈ g) : Fits L.net L.lo g none T := h.fits.sub hg
end
end VI
set_option Elab.async false
set_option linter.all false
set_option maxRecDepth 100000
set_option autoImplicit false
namespace VI
open PySem L2
section
variable {a b c d e g : Bool} {L M : LogS} {N : Net} {ts : List Str} {m j k : Nat} {T : Str → Int} {fs gs : List Pt} {s : Str} {B : Str → Int} {t h x y : Int}
def AtP (M : LogS) (fs : List Pt) (s : Str) (t h : Int) : Prop := ∃ T, Fits M.net (put M.lo s t) fs none T ∧ ∀ r ∈ M.net.names, T r ≤ put M.hi s h r
theorem put_self {f : Str → Int} : put f s (f s) = f := by
  funext x; unfold put; by_cases e : x = s <;> simp [e]
structure ClI (M : LogS) (fs : List Pt) (s : Str) (b h : Int) (z : Int × Int × Int × Int) : Prop where
  l : b + 1 ≤ z.1
  lh : z.1 ≤ z.2.1
  hh : z.2.1 ≤ h
  p : AtP M fs s z.1 h
  n : ∀ t, z.2.1 < t → t ≤ h → ¬ AtP M fs s t h
  w : 0 ≤ z.2.2.1 ∧ z.2.2.1 ≤ z.2.2.2 ∧ z.2.2.2 ≤ M.net.dawn
end
end VI
set_option Elab.async false
set_option linter.all false
set_option maxRecDepth 100000
set_option autoImplicit false
namespace VI
open PySem L2
section
variable {a b c d e g : Bool} {L M : LogS} {N : Net} {ts : List Str} {m j k : Nat} {T : Str → Int} {fs gs : List Pt} {s : Str} {B : Str → Int} {t h x y : Int} {pl : Bool}
theorem AtP.of {g : List Pt} (h : Story L m none T) (hg : ∀ p ∈ L.net.faults T, p ∈ g) (hs : s ∈ L.net.names) : AtP L g s (T s) (L.hi s) := by
  have f := h.fitsG hg
  refine ⟨T, ⟨f.rng, fun r hr => ?_, f.flt, f.fst⟩, fun r hr => ?_⟩
  · have := f.low r hr
    unfold put
    by_cases e : r = s
    · subst e; simp
    · simpa [e] using this
  · rw [put_self]; exact (h.ins r hr).2
structure Ruled (L : LogS) (m : Nat) (cs : List (List Row4)) : Prop where
  ch : ∀ rs ∈ cs, ChOk L none rs
  len : cs.length ≤ 577
  no : ∀ f ∈ setsM L m, hitsB f (nmC L.net cs) = false
end
end VI
set_option Elab.async false
set_option linter.all false
set_option maxRecDepth 100000
set_option autoImplicit false
namespace VI
open PySem L2
section
variable {X : Cx} {cl : Tb} {mu : List Nat} {a b e1 e2 : Expr} {m1 m2 mx : Ev → Option XOut} {mk : Ev → Option D} {pos lpos : Pos}
end
section
variable {A : Ev} {mx m1 m2 : Ev → Option XOut} {mk : Ev → Option D}
end
end VI
set_option Elab.async false
set_option linter.all false
set_option maxRecDepth 100000
set_option autoImplicit false
namespace VI
open PySem L2
end VI
set_option Elab.async false
set_option linter.all false
set_option maxRecDepth 100000
set_option autoImplicit false
namespace VI
open PySem L2
section
variable {a b c : Bool} {L : LogS} {N : Net} {m : Nat} {T : Str → Int} {s : Str}
end
end VI
set_option Elab.async false
set_option linter.all false
set_option maxRecDepth 100000
set_option autoImplicit false
namespace VI
open PySem L2
end VI
set_option Elab.async false
set_option linter.all false
set_option maxRecDepth 100000
set_option autoImplicit false
namespace VI
open PySem L2
section
variable {β : Line → Bool} {N : Net}
end
section
variable {a b c d e g : Bool} {N : Net} {L : LogS} {lo hi T : Str → Int} {row : List Int} {ts : List Str}
end
end VI
set_option Elab.async false
set_option linter.all false
set_option maxRecDepth 100000
set_option autoImplicit false
namespace VI
open PySem L2
section
variable {a b c d e : Bool} {N : Net} {src tgt s : Str} {S : Str → Bool} {cap : Int} {Z T R : Str → Int} {ks as : List Str} {k : Nat}
structure Reach (N : Net) (src : Str) (S : Str → Bool) (cap : Int) (Z : Str → Int) : Prop where
  z : Z src = 0
  le : ∀ l ∈ N.lines, ∀ m, l.most = some m → S l.viewer = false → Z l.viewer ≤ Z l.seen + m
  one : ∀ s ∈ N.names, s = src ∨ Z s = cap ∨ ∃ l ∈ N.lines, l.viewer = s ∧ S s = false ∧ ∃ m, l.most = some m ∧ Z s = Z l.seen + m
  rng : ∀ s ∈ N.names, 0 ≤ Z s ∧ Z s ≤ cap
end
end VI
set_option Elab.async false
set_option linter.all false
set_option maxRecDepth 100000
set_option autoImplicit false
namespace VI
namespace CH
open PySem L2
section
variable {us : List Str} {S : List Str} {fs : List Pt} {k m : Nat} {s kd : Str} {b c d e : Bool}
abbrev Pc := Nat × List Str
def stepC (us : List Str) (q : Pc) (i : Nat) : List Pc := match us[q.1 + i]? with
  | some s => [(q.1 + i + 1, q.2 ++ [s])]
  | none => []
def extC (us : List Str) (q : Pc) : List Pc := (List.range (us.length - q.1)).flatMap (stepC us q)
def cl (us : List Str) : Nat → List Pc
  | 0 => [(0, [])]
  | k + 1 => (cl us k).flatMap (extC us)
end
end CH
end VI
set_option Elab.async false
set_option linter.all false
set_option maxRecDepth 100000
set_option autoImplicit false
namespace VI
open PySem L2
section
variable {a b c d e : Bool} {N : Net} {L : LogS} {src tgt s kd : Str} {S : Str → Bool} {cap t : Int} {Z T R : Str → Int} {ls as us : List Str} {k m : Nat} {fs : List Pt}
def AllowF (L : LogS) (fs : List Pt) : Prop := ∃ T, Fits L.net L.lo fs none T ∧ ∀ s ∈ L.net.names, T s ≤ L.hi s
open Classical in
noncomputable def alB (L : LogS) (fs : List Pt) : Bool := decide (AllowF L fs)
theorem alB_iff : alB L fs = true ↔ AllowF L fs := by unfold alB; simp
theorem AllowF.hits {cs : List (List Row4)} (ok : L.net.Ok) (h : AllowF L fs) (hc : ∀ rs ∈ cs, ChOk L none rs) : hitsB fs (nmC L.net cs) = true := by
  obtain ⟨T, f, hi⟩ := h
  unfold hitsB nmC
  rw [List.all_eq_true]
  intro l hl
  obtain ⟨rs, hr, rfl⟩ := List.mem_map.mp hl
  obtain ⟨s, hs, k, h1, h2⟩ := chain_sound ok (hc rs hr).1 f.rng (fun s hs => ⟨f.low s hs, hi s hs⟩) (fun _ z => nomatch z)
  unfold hitB
  rw [List.any_eq_true]
  exact ⟨(s, k), f.flt s hs k h1, by simpa using h2⟩
theorem find_at {α : Type} {p : α → Bool} {pre post : List α} {x : α} (h1 : ∀ y ∈ pre, p y = false) (h2 : p x = true) : (pre ++ x :: post).find? p = some x := by
  rw [List.find?_append, List.find?_eq_none.mpr (fun y hy => by rw [h1 y hy]; simp)]
  simp [List.find?_cons, h2]
theorem Diag.first {o : Option (List Pt × (Str → Int))} {cs : List (List Row4)} (dg : Diag L m none o cs) (ok : L.net.Ok) : o.map (·.1) = (setsM L m).find? (alB L) := by
  have hno : ∀ g, hitsB g (nmC L.net cs) = false → alB L g = false := fun g h => by
    rw [Bool.eq_false_iff]
    intro z
    rw [(alB_iff.mp z).hits ok dg.ch] at h
    cases h
  cases o with
  | none =>
    symm
    rw [Option.map_none, List.find?_eq_none]
    intro g hg
    rw [hno g (dg.non rfl g hg)]; simp
  | some z =>
    obtain ⟨fs, E⟩ := z
    obtain ⟨pre, post, e1, e2, e3, e4⟩ := dg.som fs E rfl
    symm
    rw [Option.map_some, e1]
    refine find_at (fun g hg => hno g (e2 g hg)) (alB_iff.mpr ⟨E, e3.fits E rfl, fun s hs => (inside_iff.mp e4 s hs).2⟩)
end
end VI
set_option Elab.async false
set_option linter.all false
set_option maxRecDepth 100000
set_option autoImplicit false
namespace VI
open PySem L2
section
variable {a b c d e : Bool} {N : Net} {L : LogS} {src tgt s : Str} {S : Str → Bool} {cap t v : Int} {Z T R : Str → Int} {ls as us : List Str} {k m : Nat} {fs : List Pt} {pl : Bool}
end
end VI
set_option Elab.async false
set_option linter.all false
set_option maxRecDepth 100000
set_option autoImplicit false
namespace VI
open PySem L2
section
variable {a b c d e : Bool} {N : Net} {L : LogS} {src tgt s : Str} {S : Str → Bool} {cap t v : Int} {Z T R : Str → Int} {ls as us : List Str} {k m : Nat} {fs : List Pt} {pl : Bool} {kd0 : Str}
end
end VI
set_option Elab.async false
set_option linter.all false
set_option maxRecDepth 100000
set_option autoImplicit false
namespace VI
open PySem L2
section
variable {X : Cx} {cl : Tb} {mu mu' : List Nat} {st : Stmt} {c : Expr} {body rest : List Stmt} {ma mb mr : SM} {mt : Ev → Option Bool} {pos : Pos}
end
end VI
set_option Elab.async false
set_option linter.all false
set_option maxRecDepth 100000
set_option autoImplicit false
namespace VI
open PySem L2
section
variable {a b : Bool} {N : Net} {src tgt : Str} {m : Nat} {l : Line}
end
end VI
set_option Elab.async false
set_option linter.all false
set_option maxRecDepth 100000
set_option autoImplicit false
namespace VI
open PySem L2
section
variable {a b : Bool} {N : Net} {tgt s : Str} {F : Str → Bool} {E T : Str → Int} {m : Nat} {as : List Str} {fs : List Pt}
structure Fire (N : Net) (F : Str → Bool) (E : Str → Int) : Prop where
  fix : ∀ s ∈ N.names, E s = if F s = true then 0 else N.soonest E s
  rng : ∀ s ∈ N.names, 0 ≤ E s ∧ E s ≤ N.dawn
end
end VI
set_option Elab.async false
set_option linter.all false
set_option maxRecDepth 100000
set_option autoImplicit false
namespace VI
open PySem L2
section
variable {N : Net} {as K : List Str} {E T : Str → Int} {s c tgt : Str} {p : Line → Bool} {t best : Int}
def subN (N : Net) (p : Line → Bool) : Net := { N with lines := N.lines.filter p }
theorem enough_of (hall : ∀ l ∈ N.lines, l.viewer = s → T l.seen + l.least ≤ t → p l = true) (h : enough N T s t = true) : enough (subN N p) T s t = true := by
  unfold enough at h ⊢
  rw [Bool.or_eq_true] at h ⊢
  rcases h with h | h
  · left
    rw [List.any_eq_true] at h ⊢
    obtain ⟨l, hl, q⟩ := h
    have q' := q
    simp only [clearBy, Bool.and_eq_true, decide_eq_true_eq] at q'
    exact ⟨l, List.mem_filter.mpr ⟨hl, hall l hl q'.1 q'.2.2⟩, q⟩
  · right
    have e : (subN N p).lines.filter (dimBy T s t) = N.lines.filter (dimBy T s t) := by
      show (N.lines.filter p).filter (dimBy T s t) = _
      rw [List.filter_filter]
      refine List.filter_congr fun l hl => ?_
      by_cases q : dimBy T s t l = true
      · have q' := q
        simp only [dimBy, Bool.and_eq_true, decide_eq_true_eq] at q'
        rw [q, hall l hl q'.1 q'.2.2]; rfl
      · have q : dimBy T s t l = false := by simpa using q
        rw [q]; simp
    rw [e]
    exact h
abbrev inK (N : Net) (K : List Str) : Net := subN N fun l => decide (l.seen ∈ K)
theorem sub_le (ok : N.Ok) (hs : s ∈ N.names) (ht : t < N.dawn) (h : N.soonest T s ≤ t) (hall : ∀ l ∈ N.lines, l.viewer = s → T l.seen + l.least ≤ t → p l = true) : (subN N p).soonest T s ≤ t := by
  obtain ⟨a1, a2⟩ := soon_key (N := N) (T := T) (s := s) (ok.n1 s hs).1
  obtain ⟨b1, b2⟩ := soon_key (N := subN N p) (T := T) (s := s) (ok.n1 s hs).1
  exact (b2 t ht).mpr (enough_of hall ((a2 t ht).mp h))
theorem ex_min {f : Str → Int} : ∀ {l : List Str}, l ≠ [] → ∃ u ∈ l, ∀ v ∈ l, f u ≤ f v
  | [], h => absurd rfl h
  | x :: l, _ => by
    by_cases hl : l = []
    · exact ⟨x, by simp, by subst hl; simp⟩
    · obtain ⟨u, hu, h⟩ := ex_min (f := f) hl
      by_cases q : f x ≤ f u
      · refine ⟨x, by simp, fun v hv => ?_⟩
        rcases List.mem_cons.mp hv with rfl | hv
        · exact Int.le_refl _
        · exact Int.le_trans q (h v hv)
      · refine ⟨u, by simp [hu], fun v hv => ?_⟩
        rcases List.mem_cons.mp hv with rfl | hv
        · omega
        · exact h v hv
structure Dij (N : Net) (as : List Str) (E : Str → Int) (K : List Str) : Prop where
  nd : K.Nodup
  sub : ∀ s ∈ K, s ∈ N.names
  has : ∀ s ∈ as, s ∈ K
  lt : ∀ s ∈ K, E s < N.dawn
  down : ∀ s ∈ K, ∀ u ∈ N.names, u ∉ K → E s ≤ E u
theorem Dij.start (ok : N.Ok) (r : Fire N (fun s => decide (s ∈ as)) E) (nd : as.Nodup) (hs : ∀ s ∈ as, s ∈ N.names) : Dij N as E as where
  nd := nd
  sub := hs
  has := fun _ h => h
  lt := fun s h => by rw [r.fix s (hs s h)]; have := ok.d1; simp [h]; omega
  down := fun s h u hu _ => by rw [r.fix s (hs s h)]; simp [h]; exact (r.rng u hu).1
theorem Dij.first (d : Dij N as E K) (ok : N.Ok) (r : Fire N (fun s => decide (s ∈ as)) E) {u : Str} (hu : u ∈ N.names) (huK : u ∉ K) (hmin : ∀ v ∈ N.names, v ∉ K → E u ≤ E v) (hlt : E u < N.dawn) : (inK N K).soonest E u ≤ E u := by
  have hf := r.fix u hu
  rw [if_neg (by simp; exact fun z => huK (d.has u z))] at hf
  refine sub_le ok hu hlt (Int.le_of_eq hf.symm) fun l hl hv hle => ?_
  rw [decide_eq_true_eq]
  refine Classical.byContradiction fun hn => ?_
  have o := ok.lok l hl
  have := hmin _ o.s hn
  have := o.l1
  omega
theorem Dij.rest (K : List Str) (hs : s ∈ N.names) (hK : s ∉ K) : ∃ u ∈ N.names, u ∉ K ∧ ∀ v ∈ N.names, v ∉ K → E u ≤ E v := by
  obtain ⟨u, hu, h⟩ := ex_min (f := E) (l := N.names.filter fun s => !decide (s ∈ K)) (fun e => by
    have : s ∈ N.names.filter fun s => !decide (s ∈ K) := List.mem_filter.mpr ⟨hs, by simpa using hK⟩
    rw [e] at this; cases this)
  obtain ⟨h1, h2⟩ := List.mem_filter.mp hu
  exact ⟨u, h1, by simpa using h2, fun v hv hk => h v (List.mem_filter.mpr ⟨hv, by simpa using hk⟩)⟩
theorem Dij.stop (d : Dij N as E K) (ok : N.Ok) (r : Fire N (fun s => decide (s ∈ as)) E) (hall : ∀ u ∈ N.names, u ∉ K → N.dawn ≤ (inK N K).soonest E u) (hs : s ∈ N.names) : s ∈ K ↔ E s < N.dawn := by
  refine ⟨d.lt s, fun h => Classical.byContradiction fun hK => ?_⟩
  obtain ⟨u, hu, huK, hm⟩ := Dij.rest (E := E) K hs hK
  have h1 := hm s hs hK
  have := d.first ok r hu huK hm (by omega)
  have := hall u hu huK
  omega
end
end VI
set_option Elab.async false
set_option linter.all false
set_option maxRecDepth 100000
set_option autoImplicit false
namespace VI
open PySem L2
section
variable {X : Cx} {cl : Tb} {mu mu' : List Nat} {pre rest : List Stmt} {m mr : SM}
end
end VI
set_option Elab.async false
set_option linter.all false
set_option maxRecDepth 100000
set_option autoImplicit false
namespace VI
open PySem L2 PyProof.Rows
section
variable {X : Cx} {cl : Tb} {mu : List Nat} {o k e : Expr} {p : Pl} {mk me : Ev → Option D} {pos pos' : Pos}
end
end VI
set_option Elab.async false
set_option linter.all false
set_option maxRecDepth 100000
set_option autoImplicit false
namespace VI
open PySem L2
section
variable {X : Cx} {cl : Tb} {mu : List Nat} {e b : Expr} {rest : List Expr} {body orelse : List Stmt} {mx : Ev → Option XOut} {pos : Pos}
end
end VI
set_option Elab.async false
set_option linter.all false
set_option maxRecDepth 100000
set_option autoImplicit false
namespace VI
open PySem L2
inductive XAs
  | ok (ds : List D) (A : Ev)
  | xc (c : Nat) (fs : List (Str × D)) (A : Ev)
section
variable {X : Cx} {cl : Tb} {mu : List Nat} {e : Expr} {es : List Expr} {mx : Ev → Option XOut} {ms : Ev → Option XAs} {x : Str} {p pos : Pos} {f : Addr} {fd : FuncData} {ps : List Str} {k : Nat} {g : List D → Option (D × Ev)}
end
section
variable {A : Ev} {mx : Ev → Option XOut} {ms : Ev → Option XAs}
end
end VI
set_option Elab.async false
set_option linter.all false
set_option maxRecDepth 100000
set_option autoImplicit false
namespace VI
open PySem L2
variable {X : Cx} {cl : Tb} {mu : List Nat} {o e : Expr} {p : Pl} {me : Ev → Option D}
end VI
set_option Elab.async false
set_option linter.all false
set_option maxRecDepth 100000
set_option autoImplicit false
namespace VI
open PySem L2
section
variable {X : Cx} {cl : Tb} {K : PySem.W.Frag} {B H : Hp} {tg e : Expr} {me : Ev → Option D} {p pos : Pos}
end
end VI
set_option Elab.async false
set_option linter.all false
set_option maxRecDepth 100000
set_option autoImplicit false
namespace VI
open PySem L2
section
variable {X : Cx} {cl : Tb} {mu : List Nat} {e o : Expr} {mx : Ev → Option XOut}
end
end VI
set_option Elab.async false
set_option linter.all false
set_option maxRecDepth 100000
set_option autoImplicit false
namespace VI
open PySem L2 PyProof.Rows
variable {X : Cx} {cl : Tb}
end VI
set_option Elab.async false
set_option linter.all false
set_option maxRecDepth 100000
set_option autoImplicit false
namespace PySem.SeqAt
open AutoSeq1 (wpAny_loadPart')
open MeetsSeq MeetsSeq2 MeetsSeq3 SeqRoads2
section
variable {prog : Program} {w : World}
end
end PySem.SeqAt
namespace VI
open PySem L2 PySem.Spec PyProof.Rows
end VI
set_option Elab.async false
set_option linter.all false
set_option maxRecDepth 100000
set_option autoImplicit false
namespace VI
open PySem L2
section
variable {X : Cx} {cl : Tb} {e : Expr} {m : Ev → Option D} {pos : Pos}
end
end VI
set_option Elab.async false
set_option linter.all false
set_option maxRecDepth 100000
set_option autoImplicit false
namespace VI
open PySem L2
section
variable {X : Cx} {cl : Tb} {a b : Expr} {rest : List Expr} {ma mb : Ev → Option D} {pos : Pos}
end
end VI
set_option Elab.async false
set_option linter.all false
set_option maxRecDepth 100000
set_option autoImplicit false
namespace VI
open PySem L2
section
variable {X : Cx} {cl : Tb} {mu : List Nat} {e ei ej : Expr} {me : Ev → Option D} {pos p1 : Pos}
end
end VI
set_option Elab.async false
set_option linter.all false
set_option maxRecDepth 100000
set_option autoImplicit false
namespace VI
open PySem L2
section
variable {X : Cx} {cl : Tb} {mu : List Nat} {o k e : Expr} {p : Pl} {mk : Ev → Option D} {me : Ev → Option (D × Ev)} {pos pos' : Pos}
end
end VI
set_option Elab.async false
set_option linter.all false
set_option maxRecDepth 100000
set_option autoImplicit false
namespace VI
open PySem PySem.Spec PyProof.Rows L2
section
variable {X : Cx} {CX : CXT} {cl : Tb} {mu : List Nat} {e : Expr} {es : List Expr} {me : Ev → Option D} {ms : Ev → Option (List D)} {x n y : Str} {p pos np p2 : Pos} {c k : Nat} {fs : List Str} {ta : TA} {te : TE}
def tOexV (C : Addr) (sp : Sp) (ta : TA) : TE := fun σ H Q => ta σ H fun vs H1 => vs.length ≤ 1000 ∧ ∀ a, H1 a = none → sp (.ref a :: vs) (upd H1 a (exo a C none)) (fun v H2 => v = .non ∧ Q (.ref a) H2) (fun _ _ _ => False)
theorem pe_oexV {C fI : Addr} {fd : FuncData} {ps : List Str} {sp : Sp} (T : OexC X.K C) (iC : PySem.W.findIn X.K (.ref C) "__init__" = some (some (.ref fI))) (tI : PySem.W.typeIn X.K (.ref fI) = some (.type "function"))
    (F1 : FnOk X.prog X.w X.K X.mg X.base CX k fI fd ps sp) (hr : Room (k + 1) X.A) (hb : Binds X.K fd ps []) (hx : Passes CX X (fun _ _ _ => False)) (hg : Gl X x) (hm : X.mg x = some (.ref C)) (ha : PA X (e :: es) ta)
    (hdb : (x == ("__debug__" : Str)) = false := by decide) (he : starEach (e :: es) X.env = (false, eval e X.env) :: starEach es X.env := by rfl) (hpl : (backTo pos (starEach es X.env)).any (·.1) = false := by rfl) :
    PE X (.Call (.Name x p) (e :: es) [] pos) (tOexV C sp ta) := by
  refine ⟨fun pins s σ H Q I h => ?_⟩
  obtain ⟨nm, q, N, bs, bm, sn, sub, ab, col, dd, k0, k1, k2, k3, k5, hC, hbm⟩ := T.cls
  refine wpAny_Call_Name_kw (ld_glob I hg hm ?_ hdb)
  refine PySem.W.callWith_K (h₀ := X.base) I.ok.mod.kin T.kC (thn (ha.run pos pins s σ H _ I h) fun us s1 ⟨vs, H1, I1, r1, hz, q1⟩ => ⟨I1.kIn, ?_⟩) he hpl
  show wpAny _ _ (call (.ref C) us) _ _ _
  obtain ⟨hp, g, dr, tk, os⟩ := s1
  have hsz : hp.objs.size ≤ hp.objs.size + 1 := Nat.le_succ _
  have hn : H1 (hp.objs.size + 1) = none := I1.hok.fresh hsz
  have hq := q1 (hp.objs.size + 1) hn
  have kk : ∀ b o, hp.get? b = some o → ((hp.push (PySem.W.kdv_tup us)).push (PySem.HandSPX.excO C hp.objs.size)).get? b = some o := fun b o e => Heap.get?_push_of_some _ (Heap.get?_push_of_some _ e)
  have hget : ((hp.push (PySem.W.kdv_tup us)).push (PySem.HandSPX.excO C hp.objs.size)).get? (hp.objs.size + 1) = some (PySem.HandSPX.excO C hp.objs.size) := by heap_get
  have I2 : Inv X pins σ (upd H1 (hp.objs.size + 1) (exo (hp.objs.size + 1) C none)) ⟨(hp.push (PySem.W.kdv_tup us)).push (PySem.HandSPX.excO C hp.objs.size), g, dr, tk, os⟩ :=
    I1.laid (t' := tk) (a := hp.objs.size + 1) (o := exo (hp.objs.size + 1) C none) (h' := (hp.push (PySem.W.kdv_tup us)).push (PySem.HandSPX.excO C hp.objs.size)) kk hsz (exo_ok hget)
  have r2 : Vals (V.ref (hp.objs.size + 1) :: vs) (Value.ref (hp.objs.size + 1) :: us) := .cons rfl r1
  have hl : (Value.ref (hp.objs.size + 1) :: us).length = ps.length := by
    have e := r2.length
    rw [F1.len _ _ _ _ hq] at e
    exact e.symm
  have hus : us.length ≤ sizeLine := by
    rw [← Paired.length r1, sizeLine_eq]
    omega
  have b := hb _ (Value.ref (hp.objs.size + 1) :: us) I2.kIn (by rw [List.append_nil]; exact hl)
  rw [List.append_nil] at b
  refine wpAny_call (PySem.HandSPX.call_own F.excBase_ValueError (fun Y => PySem.HandSPX.refsVE_contains Y bm hbm) (I1.kIn _ _ hC) (PySem.W.looks_findIn I1.kIn iC) (fun self => PySem.W.bind_fn I1.kIn self tI) hus
    (codeAny_mono (F1.run _ X.stack _ _ ⟨Value.ref (hp.objs.size + 1) :: us, []⟩ (Value.ref (hp.objs.size + 1) :: us) _ _ (fun _ _ _ => False) (hr.make C us []) (I2.env0.make C us []) b r2 hq) fun r s' hq' => ?_))
  cases r with
  | error er => exact hx pins σ _ _ er s' I2 hq'
  | ok fl =>
    cases fl with
    | ret u =>
      obtain ⟨v, H2, J, rv, ev, q2⟩ := I2.after hq'
      subst ev
      exact ⟨rv, .ref (hp.objs.size + 1), H2, J, rfl, q2⟩
    | next => exact False.elim hq'
    | brk => exact False.elim hq'
    | cont => exact False.elim hq'
def mExc (c : Nat) (fs : List Str) (ms : Ev → Option (List D)) : Ev → Option D := fun A => (ms A).bind fun ds => if D.plainL ds = true ∧ ds.length = fs.length then some (.exc c fs ds) else none
theorem ev_exc (hr : Room (k + 1) X.A) (T : ExK X.prog X.w X.K X.mg X.base (cl c) fs k) (hg : Gl X x) (hm : X.mg x = some (.ref (cl c))) (ha : EvA X cl (e :: es) ms)
    (hl : fs.length ≤ 1000 := by decide) (hdb : (x == ("__debug__" : Str)) = false := by decide) (he : starEach (e :: es) X.env = (false, eval e X.env) :: starEach es X.env := by rfl) (hpl : (backTo pos (starEach es X.env)).any (·.1) = false := by rfl) :
    EvD X cl (.Call (.Name x p) (e :: es) [] pos) (mExc c fs ms) := by
  obtain ⟨t, pa, r⟩ := ha
  obtain ⟨f, fd, ps, hi, ht, Fn, hb⟩ := T.fn
  refine ⟨_, pe_oexV T.ox hi ht Fn hr hb pass0 hg hm pa hdb he hpl, fun σ A B H R d hd Q q => ?_⟩
  unfold mExc at hd
  simp only [Option.bind_eq_some_iff] at hd
  obtain ⟨ds, hds, hd⟩ := hd
  split at hd
  · rename_i hc2
    obtain ⟨hp, hlen⟩ := hc2
    cases hd
    refine r σ A B H R ds hds _ fun vs B1 H1 f1 n1 q1 => ?_
    have z := RepL.plain hp q1
    subst z
    have hlv : vs.length = fs.length := by rw [← q1.length, hlen]
    refine ⟨by rw [hlv]; exact hl, fun a ha => ⟨a, vs, rfl, hlv, upd_same, fun dx H2 h1 h2 h3 h4 h5 => ⟨rfl, ?_⟩⟩⟩
    have hdx : H1 dx = none := by rw [upd_ne h2] at h1; exact h1
    have nA : New B1 H1 (upd B1 dx (exd dx (fs.zip vs).reverse)) (upd H1 dx (exd dx (fs.zip vs).reverse)) := New.told n1.sub hdx
    have hxa : upd H1 dx (exd dx (fs.zip vs).reverse) a = none := by rw [upd_ne (Ne.symm h2)]; exact ha
    have nB := New.told (o := exo a (cl c) (some dx)) nA.sub hxa
    have eH : H2 = upd (upd H1 dx (exd dx (fs.zip vs).reverse)) a (exo a (cl c) (some dx)) := by
      funext b
      by_cases hb1 : b = a
      · rw [hb1, upd_same, h3]
      · rw [upd_ne hb1]
        by_cases hb2 : b = dx
        · rw [hb2, upd_same, h4]
        · rw [upd_ne hb2, h5 b hb1 hb2, upd_ne hb1]
    subst eH
    refine q (.ref a) _ _ [] (n1.trans (nA.trans nB)) ?_ Fresh.nil
    simp only [Rep]
    exact ⟨a, dx, vs, rfl, .inl upd_same, .inl (by rw [upd_ne h2, upd_same]), hlen.symm, q1.mono (nA.trans nB).le.le (fun _ z => nomatch z), trivial⟩
  · cases hd
theorem exc_view {K : PySem.W.Frag} {cl : Nat → Addr} {B H : Hp} {c : Nat} {fs : List Str} {ds : List D} {v : V} {fp : List Addr} (s : BLe B H) (h : Rep K cl B H (.exc c fs ds) v fp) :
    ∃ a dx vs, v = .ref a ∧ Rd H a (exo a (cl c) (some dx)) ∧ Rd H dx (exd dx (fs.zip vs).reverse) ∧ fs.length = ds.length ∧ RepL K cl B H ds vs [] := by
  simp only [Rep] at h
  obtain ⟨a, dx, vs, e, q1, q2, l, r, _⟩ := h
  exact ⟨a, dx, vs, e, s.rd _ _ q1, s.rd _ _ q2, l, r⟩
theorem exc_look {K : PySem.W.Frag} {cl : Nat → Addr} {B H : Hp} {f : Str} : ∀ {fs : List Str} {ds : List D} {vs : List V}, fs.length = ds.length → RepL K cl B H ds vs [] →
    ((fs.zip ds).reverse.lookup f = none ∧ (fs.zip vs).reverse.lookup f = none) ∨ ∃ d v, (fs.zip ds).reverse.lookup f = some d ∧ (fs.zip vs).reverse.lookup f = some v ∧ Rep K cl B H d v []
  | [], ds, vs, _, _ => .inl ⟨by simp [List.lookup], by simp [List.lookup]⟩
  | g :: fs, [], _, l, _ => by simp at l
  | g :: fs, d :: ds, vs, l, h => by
    simp only [RepL] at h
    obtain ⟨v, vr, f1, f2, e, e2, r, rr⟩ := h
    have e1 : f1 = [] := (List.append_eq_nil_iff.mp e2.symm).1
    have e3 : f2 = [] := (List.append_eq_nil_iff.mp e2.symm).2
    subst e e1 e3
    simp only [List.zip_cons_cons, List.reverse_cons, List.lookup_append]
    rcases exc_look (f := f) (by simpa using l) rr with ⟨n1, n2⟩ | ⟨d1, v1, n1, n2, n3⟩
    · rw [n1, n2]
      by_cases hf : f = g
      · subst hf
        exact .inr ⟨d, v, by simp [List.lookup], by simp [List.lookup], r⟩
      · have e : (f == g) = false := by simpa using hf
        exact .inl ⟨by simp [List.lookup, e], by simp [List.lookup, e]⟩
    · rw [n1, n2]
      exact .inr ⟨d1, v1, rfl, rfl, n3⟩
def tXfO (K : PySem.W.Frag) (f : Str) (te : TE) : TE := fun σ H Q => te σ H fun x H1 => ∃ (a C dd : Addr) (fs : List (Str × V)) (v : V), x = .ref a ∧ XfC K C ∧ PySem.W.findIn K (.ref C) f = some none ∧ Rd H1 a (exo a C (some dd)) ∧ Rd H1 dd (exd dd fs) ∧ fs.lookup f = some v ∧ Q v H1
theorem exo_rd {P : Program} {w : World} {H : Hp} {h : Heap} {e C : Addr} {d : Option Addr} (hok : HOk P w H h) (he : Rd H e (exo e C d)) : ∃ t1 : Addr, h.get? e = some ({ cls := .ref C, dict := d, data := .fields #[.ref t1, .none, .none, .none, .bool false, .none] } : Obj) := by
  have x : ObjOk P w H h e (.ext fun h => ∃ t1 : Addr, h.get? e = some ({ cls := .ref C, dict := d, data := .fields #[.ref t1, .none, .none, .none, .bool false, .none] } : Obj)) := he.ok hok
  exact x.1
theorem exd_rd {P : Program} {w : World} {H : Hp} {h : Heap} {dx : Addr} {fs : List (Str × V)} (hok : HOk P w H h) (he : Rd H dx (exd dx fs)) : ∃ mA, h.Ns1 dx mA ∧ ∀ f, RelO (fs.lookup f) (mA f) := by
  have x : ObjOk P w H h dx (.ext fun h => ∃ mA, h.Ns1 dx mA ∧ ∀ f, RelO (fs.lookup f) (mA f)) := he.ok hok
  exact x.1
theorem exc_inst {pins : List (Addr × Obj)} {σ : L2.St} {H : Hp} {s : Shared} {a C dd : Addr} {fs : List (Str × V)} (I : Inv X pins σ H s) (h1 : Rd H a (exo a C (some dd))) (h2 : Rd H dd (exd dd fs)) :
    ∃ (ox od : Obj) (mA : Str → Option Value), PySem.W.InstAt s.heap a ox C (some od) ∧ (∀ f, PySem.W.lookIn f od = some (mA f)) ∧ ∀ f, RelO (fs.lookup f) (mA f) := by
  obtain ⟨t1, ho⟩ := exo_rd I.hok h1
  obtain ⟨mA, hns, hr⟩ := exd_rd I.hok h2
  obtain ⟨od, hod, hl⟩ := lookIn_ns hns
  exact ⟨_, od, mA, ⟨ho, rfl, rfl, hod⟩, hl, hr⟩
theorem pe_xfO {f : Str} (he : PE X e te) (hb : attributeBase e f X.env (eval e X.env) = eval e X.env := by rfl) : PE X (.Attribute e f pos) (tXfO X.K f te) := by
  refine ⟨fun pins s σ H Q I h => ?_⟩
  refine attr_of hb (thn (he.run pins s σ H _ I h) fun u s1 hh => ?_)
  obtain ⟨x, H1, I1, rx, a, C, dd, fs, v, ex, T, hno, h1, h2, l, q⟩ := hh
  subst ex
  obtain rfl : u = Value.ref a := rx
  obtain ⟨ox, od, mA, J, hl, hr⟩ := exc_inst I1 h1 h2
  obtain ⟨u, hu, ru⟩ := RelO.some_of (v := v) (o := mA f) (by rw [← l]; exact hr f)
  exact HandSPX.exc_get I1.kIn J T.ga T.gg T.exC (PySem.W.findObj_own T.hdC hno rfl (by rw [hl, hu])) (handed_of ru) ⟨v, H1, I1.tok _, ru, q⟩
def mXfV (ok : Nat → Bool) (f : Str) (me : Ev → Option D) : Ev → Option D := fun A => (me A).bind fun d => match d with
  | .exc c fs ds => if ok c = true then (fs.zip ds).reverse.lookup f else none
  | _ => none
theorem ev_xfV {f : Str} (ok : Nat → Bool) (hok : ∀ c, ok c = true → XfC X.K (cl c) ∧ PySem.W.findIn X.K (.ref (cl c)) f = some none) (he : EvV X cl e me) (hb : attributeBase e f X.env (eval e X.env) = eval e X.env := by rfl) :
    EvV X cl (.Attribute e f pos) (mXfV ok f me) := by
  obtain ⟨t, pe, r⟩ := he
  refine ⟨_, pe_xfO pe hb, fun σ A B H R d hd Q q => ?_⟩
  unfold mXfV at hd
  simp only [Option.bind_eq_some_iff] at hd
  obtain ⟨d0, h0, hd⟩ := hd
  split at hd
  · rename_i c fs ds
    split at hd
    · rename_i hc
      obtain ⟨T, hno⟩ := hok c hc
      refine r σ A B H R _ h0 _ fun v B1 H1 fp n1 rp => ?_
      obtain ⟨a, dx, vs, rfl, q1, q2, l, rr⟩ := exc_view n1.sub rp
      rcases exc_look (f := f) l rr with ⟨z, _⟩ | ⟨d1, v1, z1, z2, z3⟩
      · rw [z] at hd; cases hd
      · rw [z1] at hd
        cases hd
        exact ⟨a, _, dx, _, v1, rfl, T, hno, q1, q2, z2, q v1 B1 H1 [] n1 z3⟩
    · cases hd
  · cases hd
def rIsV (K : PySem.W.Frag) : List V → Hp → VK → Prop := fun xs H Q => ∃ (a C dd : Addr) (fs : List (Str × V)) (c : V) (cv : Value) (b : Bool), xs = [.ref a, c] ∧ ExcC K C ∧ (∀ u, RelV c u → u = cv) ∧ PySem.W.kitOne K (.ref C) cv = some b ∧ Rd H a (exo a C (some dd)) ∧ Rd H dd (exd dd fs) ∧ Q (.bl b) H
theorem call_isV : CallR X (.builtin "isinstance") (rIsV X.K) := by
  intro pins s σ H xs us Q I r h
  obtain ⟨a, D, dd, fs, c, cv, b, rfl, C, hcv, e, h1, h2, z⟩ := h
  cases r with
  | cons rx rr =>
    cases rr with
    | cons rt rr =>
      cases rr
      cases rx
      have ec := hcv _ rt
      subst ec
      obtain ⟨ox, od, mA, J, _, _⟩ := exc_inst I h1 h2
      have hcl : (PySem.W.clsIn X.K D).isSome = true := by
        obtain ⟨cd, hc, _⟩ := PySem.W.any_some C.hd
        rw [hc] <;> rfl
      exact PySem.W.kia_one (PySem.W.kitx_exc hcl C.hg C.hk C.hs C.ha C.hn C.ht C.hm) I.kIn J e (fun z => nomatch z) fun tk => ⟨.bl b, H, I.kept (t' := tk) fun _ _ z => z, rfl, z⟩
def mIsV (dec : Nat → Option Bool) (me : Ev → Option D) : Ev → Option D := fun A => (me A).bind fun d => match d with
  | .exc c _ _ => (dec c).map .bl
  | _ => none
theorem ev_isV {cv : Value} {u : V} (dec : Nat → Option Bool) (hdec : ∀ c b, dec c = some b → ExcC X.K (cl c) ∧ PySem.W.kitOne X.K (.ref (cl c)) cv = some b) (hv : EvV X cl e me)
    (hg : Gl X "isinstance") (hm : X.mg "isinstance" = none) (hbt : bootBuiltins "isinstance" = some (.builtin "isinstance")) (hy : PE X (.Name y p2) (tC u)) (hu : ∀ w, RelV u w → w = cv)
    (he : starEach [e, .Name y p2] X.env = (false, eval e X.env) :: starEach [.Name y p2] X.env := by rfl) :
    EvV X cl (.Call (.Name "isinstance" np) [e, .Name y p2] [] pos) (mIsV dec me) := by
  obtain ⟨t, pe, r⟩ := hv
  refine ⟨_, pe_callB call_isV hg hm hbt (pa_cons pe (pa_cons hy pa_nil) he) (he := he), fun σ A B H R d hd Q q => ?_⟩
  unfold mIsV at hd
  simp only [Option.bind_eq_some_iff] at hd
  obtain ⟨d0, h0, hd⟩ := hd
  split at hd
  · rename_i c fs ds
    simp only [Option.map_eq_some_iff] at hd
    obtain ⟨b, hb, rfl⟩ := hd
    obtain ⟨C, hk⟩ := hdec c b hb
    refine r σ A B H R _ h0 _ fun v B1 H1 fp n1 rp => ?_
    obtain ⟨a, dx, vs, rfl, q1, q2, l, rr⟩ := exc_view n1.sub rp
    exact ⟨a, _, dx, _, u, cv, b, rfl, C, hu, hk, q1, q2, q (.bl b) B1 H1 [] n1 rep_bl⟩
  · cases hd
section
variable {A : Ev} {d : D} {ds : List D} {f : Str}
@[simp] theorem mExc_run : mExc c fs ms A = (ms A).bind fun ds => if D.plainL ds = true ∧ ds.length = fs.length then some (.exc c fs ds) else none := (rfl)
def xfD (ok : Nat → Bool) (f : Str) : D → Option D
  | .exc c fs ds => if ok c = true then (fs.zip ds).reverse.lookup f else none
  | _ => none
@[simp] theorem mXfV_run {ok : Nat → Bool} : mXfV ok f me A = (me A).bind (xfD ok f) := by
  unfold mXfV
  cases me A with
  | none => rfl
  | some d => cases d <;> rfl
@[simp] theorem xfD_exc {ok : Nat → Bool} : xfD ok f (.exc c fs ds) = if ok c = true then (fs.zip ds).reverse.lookup f else none := (rfl)
def isD (dec : Nat → Option Bool) : D → Option D
  | .exc c _ _ => (dec c).map .bl
  | _ => none
@[simp] theorem mIsV_run {dec : Nat → Option Bool} : mIsV dec me A = (me A).bind (isD dec) := by
  unfold mIsV
  cases me A with
  | none => rfl
  | some d => cases d <;> rfl
@[simp] theorem isD_exc {dec : Nat → Option Bool} : isD dec (.exc c fs ds) = (dec c).map .bl := (rfl)
@[simp] theorem frz_exc : (D.exc c fs ds).frz = .exc c fs ds := (rfl)
@[simp] theorem plain_exc : (D.exc c fs ds).plain = true := (rfl)
@[simp] theorem clean_exc : (D.exc c fs ds).clean = false := (rfl)
end
end
section
variable {X : Cx} {cl : Tb} {mu : List Nat} {k c : Nat} {f C : Addr} {fd : FuncData} {ps : List Str} {sp : Sp} {W : WX} {x : Str} {pn pos : Pos} {e : Expr} {es : List Expr} {t : TA} {ms : Ev → Option (List D)} {g : List D → Option XOut} {pins : List (Addr × Obj)} {σ : L2.St} {H : Hp} {s : Shared} {Q : VK} {us : List Value} {vs : List V}
theorem run_makeS {E : XK} (M : Mk X.K C f) (F : FnOk X.prog X.w X.K X.mg X.base (L2.CX X.prog X.w) k f fd ps sp) (hr : Room (k + 1) X.A) (hb : Binds X.K fd ps []) (hx : PassesAt (L2.CX X.prog X.w) X σ E) (I : Inv X pins σ H s) (r : Vals vs us)
    (h : ∀ x dx, H x = none → H dx = none → dx ≠ x → sp (.ref x :: vs) (upd (upd H dx (.own x)) x (.ins C dx [])) (fun v H2 => v = .non ∧ Q (.ref x) H2) E) :
    wpAny (model X.prog X.w) X.A (call (.ref C) us) (EP X pins σ Q) X.xe s := by
  have hq := h (s.heap.objs.size + 1) s.heap.objs.size (I.hok.fresh (Nat.le_succ _)) (I.hok.fresh (Nat.le_refl _)) (Nat.ne_of_lt (Nat.lt_succ_self _))
  have I2 := Inv.made (C := C) I
  have r2 : Vals (V.ref (s.heap.objs.size + 1) :: vs) (Value.ref (s.heap.objs.size + 1) :: us) := .cons rfl r
  have hl : (Value.ref (s.heap.objs.size + 1) :: us).length = ps.length := by
    have e := r2.length
    rw [F.len _ _ _ _ hq] at e
    exact e.symm
  have b := hb _ (Value.ref (s.heap.objs.size + 1) :: us) I2.kIn (by rw [List.append_nil]; exact hl)
  rw [List.append_nil] at b
  refine wpAny_call (make_map (f := f) I.kIn M.makes M.init (beq_iff_eq.mp M.fn) (codeAny_mono (F.run _ X.stack _ _ ⟨Value.ref (s.heap.objs.size + 1) :: us, []⟩ (Value.ref (s.heap.objs.size + 1) :: us) _ _ E (hr.make C us [])
    (I2.env0.make C us []) b r2 hq) fun r s' hq' => ?_))
  cases r with
  | error e => exact hx pins _ _ e s' I2 hq'
  | ok fl =>
    cases fl with
    | ret u =>
      obtain ⟨v, H', I3, rv, ev, q3⟩ := I2.after hq'
      subst ev
      exact ⟨rv, ⟨V.ref (s.heap.objs.size + 1), H', I3, rfl, q3⟩⟩
    | next => exact False.elim hq'
    | brk => exact False.elim hq'
    | cont => exact False.elim hq'
def tMakeW (C : Addr) (sp : Sp) (W : WX) (t : TA) : TE := fun σ H Q => t σ H fun vs H1 => ∀ x dx, H1 x = none → H1 dx = none → dx ≠ x → sp (.ref x :: vs) (upd (upd H1 dx (.own x)) x (.ins C dx [])) (fun v H2 => v = .non ∧ Q (.ref x) H2) (fun c d H' => W c d σ H')
theorem pe_makeW (tkw : Takes X W) (M : Mk X.K C f) (F : FnOk X.prog X.w X.K X.mg X.base (L2.CX X.prog X.w) k f fd ps sp) (hr : Room (k + 1) X.A) (hg : Gl X x) (hm : X.mg x = some (.ref C)) (hb : Binds X.K fd ps [])
    (ha : PA X (e :: es) t) (hdb : (x == ("__debug__" : Str)) = false := by decide) (he : starEach (e :: es) X.env = (false, eval e X.env) :: starEach es X.env := by rfl) (hpl : (backTo pos (starEach es X.env)).any (·.1) = false := by rfl) :
    PE X (.Call (.Name x pn) (e :: es) [] pos) (tMakeW C sp W t) := by
  refine ⟨fun pins s σ H Q I h => ?_⟩
  refine wpAny_Call_Name_kw (ld_glob I hg hm ?_ hdb)
  refine PySem.W.callWith_K (h₀ := X.base) I.ok.mod.kin M.kp (thn (ha.run pos pins s σ H _ I h) fun us s1 ⟨vs, H1, I1, r, q⟩ => ⟨I1.kIn, ?_⟩) he hpl
  exact run_makeS M F hr hb (passAt tkw σ) I1 r q
def apMX (g : List D → Option XOut) (c : Nat) (ds : List D) : Option XR := (g (.obj true c [] [] :: D.frzL ds)).bind fun r => match r with
  | .rt .non A2 => match A2[0]? with
    | some (some e') => if D.plainL ds = true ∨ e'.clean = true then some (.rt e') else none
    | _ => none
  | .xc c' fs _ => if D.plainL ds = true ∨ (fs.all fun p => p.2.clean) = true then some (.xc c' fs) else none
  | _ => none
def xMake (g : List D → Option XOut) (c : Nat) (ms : Ev → Option (List D)) : Ev → Option XOut := fun A => (ms A).bind fun ds => (apMX g c ds).map (XR.out A)
@[simp] theorem xMake_run {A : Ev} : xMake g c ms A = (ms A).bind fun ds => (apMX g c ds).map (XR.out A) := (rfl)
theorem vex_make (tk : Takes X cl.W) (hM : Mk X.K (cl c) f) (Fn : FnOk X.prog X.w X.K X.mg X.base (L2.CX X.prog X.w) k f fd ps (SpX X.K cl [0] ps.length g)) (hr : Room (k + 1) X.A) (hg : Gl X x) (hm : X.mg x = some (.ref (cl c))) (hb : Binds X.K fd ps []) (har : ArX ps.length g)
    (ha : EvA X cl (e :: es) ms) (hdb : (x == ("__debug__" : Str)) = false := by decide) (he : starEach (e :: es) X.env = (false, eval e X.env) :: starEach es X.env := by rfl) (hpl : (backTo pos (starEach es X.env)).any (·.1) = false := by rfl) :
    VEX X cl mu (.Call (.Name x pn) (e :: es) [] pos) (xMake g c ms) := by
  obtain ⟨t, pa, r⟩ := ha
  refine ⟨_, pe_makeW tk hM Fn hr hg hm hb pa hdb he hpl, fun G σ A B H F hkp gd out hd Q q => ?_⟩
  unfold xMake apMX at hd
  simp only [Option.bind_eq_some_iff, Option.map_eq_some_iff] at hd
  obtain ⟨ds, hds, ro, ⟨rr, hf, hro⟩, rfl⟩ := hd
  refine r σ A B H gd.renv ds hds _ fun vs B1 H1 f1 n1 rv => ?_
  intro xa dx hx hdx hne
  obtain ⟨s2, le2, rf⟩ := rv.freeze n1.sub
  have st1 := rv.stand'
  generalize hBp : addB B1 H1 f1 = Bp at *
  have hxB : Bp xa = none := s2.none_of hx
  have hdB : Bp dx = none := s2.none_of hdx
  have s3 : BLe Bp (upd (upd H1 dx (.own xa)) xa (.ins (cl c) dx [])) := (s2.upd_out hdB).upd_out hxB
  have hH : ∀ a o, H1 a = some o → (upd (upd H1 dx (.own xa)) xa (.ins (cl c) dx [])) a = some o := fun a o h => by
    rw [upd_ne (fun e => by rw [e, hx] at h; cases h), upd_ne (fun e => by rw [e, hdx] at h; cases h)]; exact h
  have hN : ∀ a, (upd (upd H1 dx (.own xa)) xa (.ins (cl c) dx [])) a = none → H1 a = none := fun a h => none_back (.plain hH) h
  generalize hHH : upd (upd H1 dx (.own xa)) xa (.ins (cl c) dx []) = HH at *
  have rs : Rep X.K cl Bp HH (.obj true c [] []) (.ref xa) [xa] := by
    simp only [Rep]
    exact ⟨xa, dx, [], [], rfl, by rw [← hHH]; exact upd_same, rfl, repL_nil, rfl⟩
  have rf2 : RepL X.K cl Bp HH (D.frzL ds) vs [] := rf.mono (BLe.refl _) fun _ z => nomatch z
  have hlen : (D.obj true c [] [] :: D.frzL ds).length = ps.length := har _ _ hf
  have g0 := goodL (q := 0) (ds := .obj true c [] [] :: D.frzL ds) (vs := .ref xa :: vs) s3 (by simp [rf.length]) rfl rfl rs (by simp) (fun a z => by simp at z; subst z; exact hxB) (gd.renv.tab.tk (n1.ex.toTK.trans (HEx.plain hH).toTK)) (fun j d hj hd => by
    cases j with
    | zero => exact absurd rfl hj
    | succ j => exact rf2.at (by simpa using hd))
  have own2 : ∀ a, a ∈ [xa] ∨ HH a = none → H1 a = none := fun a h => by
    rcases h with h | h
    · simp at h; subst h; exact hx
    · exact hN a h
  have news : ∀ {σ' : L2.St} {B' H' : Hp} {A' : Ev} {F' : Nat → List Addr}, Good X.K (tb cl) (gs0 HH Bp [xa] [0] (.ref xa :: vs)) B' H' σ' A' F' → New Bp H1 B' H' := fun {σ' B' H' A' F'} g2 => ⟨{ toTK := (HEx.plain hH).toTK.trans g2.tk.toTK, keep := fun a ob nt h => (g2.fr a ob nt (hH a ob h) (fun z => by have z : a ∈ [xa] := z; rw [List.mem_singleton] at z; subst z; rw [hx] at h; cases h)).elim id fun ⟨p, hp, _⟩ => (nomatch hp) }, g2.le0, g2.sub, fun a h => (g2.bnew a h).imp id fun h => h.elim (fun h => fot_back (.plain hH) h) fun h => .inl (own2 a (.inl h))⟩
  refine ⟨by rw [← hlen]; simp [rf.length], Bp, _, _, [xa], g0, ?_⟩
  cases rr with
  | rt d0 A2 =>
    split at hro
    · rename_i A3 heq
      cases heq
      split at hro
      · rename_i e' h2
        split at hro
        · rename_i hc
          cases hro
          refine .inl ⟨.non, _, hf, fun σ' B' H' F' v fp g2 rp ow => ?_⟩
          rw [rep_non_iff] at rp
          refine ⟨rp.1, ?_⟩
          obtain ⟨u', hu', ru⟩ := g2.at_ 0 _ h2
          have hkeep : σ'[0]? = some (some (.ref xa)) := g2.keep (0, .ref xa) (by simp [gs0])
          rw [hkeep] at hu'
          cases hu'
          have n2 := news g2
          have f2 : Fresh H1 B' (F' 0) := ⟨g2.nd 0, fun a z => own2 a (g2.own 0 a z), g2.nb 0⟩
          subst hBp
          obtain ⟨B2, n3, r3, f3⟩ := New.thaw n1.sub st1 n2 ru f2 (hc.imp (fun h => RepL.plain h rv) id)
          have g1 := gd.news n1
          exact q (.ref xa) B2 H' F (F' 0) (g1.news n3) r3 (g1.ownF f3)
        · cases hro
      · cases hro
    · rename_i heq
      cases heq
    · cases hro
  | xc c' fs A2 =>
    simp only at hro
    split at hro
    · rename_i hc
      cases hro
      refine .inr ⟨c', fs, A2, hf, fun σ' B' H' F' d g2 fa => ?_⟩
      have n2 := news g2
      subst hBp
      obtain ⟨B2, n3, fa2⟩ := fa.thaw n1.sub st1 n2 (hc.imp (fun h => RepL.plain h rv) id)
      exact q B2 H' F d ((gd.news n1).news n3) fa2
    · cases hro
end
end VI
set_option Elab.async false
set_option linter.all false
set_option maxRecDepth 100000
set_option autoImplicit false
namespace VI
open PySem L2
section
variable {K : PySem.W.Frag} {cl : Tb} {G : GS} {B H : Hp} {σ : St} {A : Ev} {F : Nat → List Addr}
theorem Good.rep {j : Nat} {d d' : D} (g : Good K cl G B H σ A F) (hA : A[j]? = some (some d)) (h : ∀ v, σ[j]? = some (some v) → Rep K cl B H d v (F j) → Rep K cl B H d' v (F j)) : Good K cl G B H σ (A.set j (some d')) F := by
  have hi : j < A.length := (List.getElem?_eq_some_iff.mp hA).1
  refine ⟨g.sub, by rw [List.length_set]; exact g.len, fun i e he => ?_, fun i he => ?_, g.nd, g.dis, g.nb, g.le0, g.fr, g.tk, g.own, g.bnew, g.keep, g.lkd, g.hx⟩
  · by_cases hij : i = j
    · subst hij
      rw [List.getElem?_set_self hi] at he; cases he
      obtain ⟨v, hv, r⟩ := g.at_ i d hA
      exact ⟨v, hv, h v hv r⟩
    · rw [List.getElem?_set_ne (Ne.symm hij)] at he
      exact g.at_ i e he
  · by_cases hij : i = j
    · subst hij; exact absurd (List.getElem?_set_self hi) (he _)
    · exact g.emp i fun d q => he d (by rw [List.getElem?_set_ne (Ne.symm hij)]; exact q)
end
section
variable {X : Cx} {cl : Tb} {mu : List Nat} {e : Expr} {es : List Expr} {me : Ev → Option D} {ms : Ev → Option (List D)} {pos : Pos} {i j : Nat} {p : Pl}
end
section
variable {X : Cx} {cl : Tb} {mu : List Nat} {k j : Nat} {f : Addr} {fd : FuncData} {pms : List Str} {x : Str} {pn pos : Pos} {e0 e1 e2 e3 : Expr} {p0 p1 : Pl} {me : Ev → Option D} {g : List D → Option (D × Ev)}
end
section
variable {X : Cx} {cl : Tb} {mu : List Nat} {e ei o : Expr} {me : Ev → Option (D × Ev)} {pos : Pos}
end
@[simp] theorem getP_lsa {as : List (Option Addr)} {xs : List D} {j : Nat} {π : List Nat} : getP (.lsa as xs) (j :: π) = xs[j]?.bind fun e => getP e π := (rfl)
@[simp] theorem setP_lsa {as : List (Option Addr)} {xs : List D} {j : Nat} {π : List Nat} {e : D} : setP (.lsa as xs) (j :: π) e = match xs[j]? with
  | some x => .lsa as (xs.set j (setP x π e))
  | none => .lsa as xs := (rfl)
@[simp] theorem frz_lsa {as : List (Option Addr)} {xs : List D} : (D.lsa as xs).frz = .lst false (D.frzL xs) := (rfl)
@[simp] theorem frz_hol {a : Addr} : (D.hol a).frz = .hol a := (rfl)
@[simp] theorem plain_hol {a : Addr} : (D.hol a).plain = true := (rfl)
@[simp] theorem plain_lsa {as : List (Option Addr)} {xs : List D} : (D.lsa as xs).plain = false := (rfl)
@[simp] theorem subscr_lsa {as : List (Option Addr)} {xs : List D} {i : Int} : subscr (.lsa as xs) (.int i) = atI xs i := (rfl)
end VI
set_option Elab.async false
set_option linter.all false
set_option maxRecDepth 100000
set_option maxHeartbeats 0
namespace Lk17
open PySem L2 VI
def t_InvalidName : List (Nat × Bool) := [(3, true), (4, false), (5, false), (6, false), (7, false), (8, false), (9, false), (10, false), (11, false), (12, false), (13, false), (14, false), (15, false)]
def t_UnknownKeeper : List (Nat × Bool) := [(3, false), (4, true), (5, false), (6, false), (7, false), (8, false), (9, false), (10, false), (11, false), (12, false), (13, false), (14, false), (15, false)]
def t_DuplicateEntry : List (Nat × Bool) := [(3, false), (4, false), (5, true), (6, false), (7, false), (8, false), (9, false), (10, false), (11, false), (12, false), (13, false), (14, false), (15, false)]
def t_NetworkFull : List (Nat × Bool) := [(3, false), (4, false), (5, false), (6, true), (7, false), (8, false), (9, false), (10, false), (11, false), (12, false), (13, false), (14, false), (15, false)]
def t_SelfLine : List (Nat × Bool) := [(3, false), (4, false), (5, false), (6, false), (7, true), (8, false), (9, false), (10, false), (11, false), (12, false), (13, false), (14, false), (15, false)]
def t_InvalidNumber : List (Nat × Bool) := [(3, false), (4, false), (5, false), (6, false), (7, false), (8, true), (9, false), (10, false), (11, false), (12, false), (13, false), (14, false), (15, false)]
def t_InvalidTable : List (Nat × Bool) := [(3, false), (4, false), (5, false), (6, false), (7, false), (8, false), (9, true), (10, false), (11, false), (12, false), (13, false), (14, false), (15, false)]
def t_InvalidFault : List (Nat × Bool) := [(3, false), (4, false), (5, false), (6, false), (7, false), (8, false), (9, false), (10, true), (11, false), (12, false), (13, false), (14, false), (15, false)]
def t_InvalidLateness : List (Nat × Bool) := [(3, false), (4, false), (5, false), (6, false), (7, false), (8, false), (9, false), (10, false), (11, true), (12, false), (13, false), (14, false), (15, false)]
def t_EmptyWindow : List (Nat × Bool) := [(3, false), (4, false), (5, false), (6, false), (7, false), (8, false), (9, false), (10, false), (11, false), (12, true), (13, false), (14, false), (15, false)]
def t_InvalidChain : List (Nat × Bool) := [(3, false), (4, false), (5, false), (6, false), (7, false), (8, false), (9, false), (10, false), (11, false), (12, false), (13, true), (14, false), (15, false)]
def t_Unexplained : List (Nat × Bool) := [(3, false), (4, false), (5, false), (6, false), (7, false), (8, false), (9, false), (10, false), (11, false), (12, false), (13, false), (14, true), (15, false)]
def t_InvalidText : List (Nat × Bool) := [(3, false), (4, false), (5, false), (6, false), (7, false), (8, false), (9, false), (10, false), (11, false), (12, false), (13, false), (14, false), (15, true)]
def t_ValueError : List (Nat × Bool) := [(3, true), (4, true), (5, true), (6, true), (7, true), (8, true), (9, true), (10, true), (11, true), (12, true), (13, true), (14, true), (15, true)]
def t_FogError : List (Nat × Bool) := [(3, true), (4, true), (5, true), (6, true), (7, true), (8, true), (9, true), (10, true), (11, true), (12, true), (13, true), (14, true), (15, true)]
/-! the pure functions -/
abbrev N_d_law_row : List Str := ["_law_cell_here", "_law_count", "_law_row_here", "_law_rest", "_law_mixed", "_law_k"]
abbrev P_d_law_row : List Str := ["_law_cell_here", "_law_count"]
abbrev N_d_law_cell : List Str := ["_law_script", "_law_k"]
abbrev P_d_law_cell : List Str := ["_law_script", "_law_k"]
abbrev N_d_law_dawn : List Str := ["_law_cell_here", "_law_choices", "_law_form", "_law_size"]
abbrev P_d_law_dawn : List Str := ["_law_cell_here", "_law_choices"]
def b_d_law_dawn : SM :=
    (sSeq (sAsg 2 (mOp modD (mCall intD (mCons (mOp subscr (mV 1) (mC (D.int 0))) mNil)) (mC (D.int 4))))
    (sSeq (sIf (mT (mOp ltD (mV 2) (mC (D.int 2))))
    (sRet (mOp subD (mOp modD (mCall intD (mCons (mV 0) mNil)) (mC (D.int 130))) (mC (D.int 15))))
    sNx)
    (sSeq (sKill [2] (sIf (mT (mOp eqD (mV 2) (mC (D.int 2))))
    (sRet (mP (mOp subscr (mLst (mCons (mNeg (mC (D.int 1))) (mCons (mC (D.int 0)) (mCons (mC (D.int 1)) (mCons (mC (D.int 100)) (mCons (mC (D.int 101)) mNil)))))) (mOp modD (mCall intD (mCons (mOp subscr (mV 1) (mC (D.int 1))) mNil)) (mC (D.int 5))))))
    sNx))
    (sSeq (sAsg 3 (mOp modD (mCall intD (mCons (mV 0) mNil)) (mOp powD (mC (D.int 10)) (mC (D.int 60)))))
    (sSeq (sKill [0] (sIf (mT (mOp eqD (mOp modD (mCall intD (mCons (mOp subscr (mV 1) (mC (D.int 3))) mNil)) (mC (D.int 2))) (mC (D.int 1))))
    (sAsg 3 (mOp modD (mCall intD (mCons (mOp mulD (mV 0) (mC (D.int 1000003))) mNil)) (mOp powD (mC (D.int 10)) (mC (D.int 60)))))
    sNx))
    (sSeq (sKill [1] (sIf (mT (mOp eqD (mOp modD (mCall intD (mCons (mOp subscr (mV 1) (mC (D.int 1))) mNil)) (mC (D.int 2))) (mC (D.int 1))))
    (sRet (mOp subD (mC (D.int 0)) (mV 3)))
    sNx))
    (sRet (mOp addD (mC (D.int 101)) (mV 3)))))))))
def f_d_law_dawn : List D → Option (D × Ev) := runF 2 4 b_d_law_dawn
abbrev N_m_Network_ddinit_x : List Str := ["self", "dawn"]
abbrev P_m_Network_ddinit_x : List Str := ["self", "dawn"]
def b_m_Network_ddinit_x : SM :=
    (sSeq (sIf (mNot (mT (mCh leD leD (mC (D.int 1)) (mV 1) (mC (D.int 100)))))
    (sRaise 8 ["number"] (mCons (mV 1) mNil))
    sNx)
    (sSeq (sKill [1] (sFldS 0 "dawn" (pN 0) (mP (mV 1))))
    (sSeq (sFldS 0 "names" (pN 0) (mLst mNil))
    (sSeq (sFldS 0 "watches" (pN 0) (mC (D.dct true [] [])))
    (sSeq (sFldS 0 "needs" (pN 0) (mC (D.dct true [] [])))
    (sSeq (sFldS 0 "spans" (pN 0) (mC (D.dtt true [] [])))
    (sFldS 0 "into" (pN 0) (mC (D.dct true [] [])))))))))
def f_m_Network_ddinit_x : List D → Option XOut := runX 2 2 b_m_Network_ddinit_x
abbrev N_d_law_class_c : List Str := ["_law_e", "_law_words"]
abbrev P_d_law_class_c : List Str := ["_law_e"]
def b_d_law_class_c : Nat → SM := fun c =>
    (sSeq (sAsg 1 (mLst mNil))
    (sSeq (sIf (mTr (mIsE (decL t_InvalidName) c))
    (sEff (bMeth1 (pN 1) (mC (D.str "InvalidName")) opAppend))
    sNx)
    (sSeq (sIf (mTr (mIsE (decL t_UnknownKeeper) c))
    (sEff (bMeth1 (pN 1) (mC (D.str "UnknownKeeper")) opAppend))
    sNx)
    (sSeq (sIf (mTr (mIsE (decL t_DuplicateEntry) c))
    (sEff (bMeth1 (pN 1) (mC (D.str "DuplicateEntry")) opAppend))
    sNx)
    (sSeq (sIf (mTr (mIsE (decL t_NetworkFull) c))
    (sEff (bMeth1 (pN 1) (mC (D.str "NetworkFull")) opAppend))
    sNx)
    (sSeq (sIf (mTr (mIsE (decL t_SelfLine) c))
    (sEff (bMeth1 (pN 1) (mC (D.str "SelfLine")) opAppend))
    sNx)
    (sSeq (sIf (mTr (mIsE (decL t_InvalidNumber) c))
    (sEff (bMeth1 (pN 1) (mC (D.str "InvalidNumber")) opAppend))
    sNx)
    (sSeq (sIf (mTr (mIsE (decL t_InvalidTable) c))
    (sEff (bMeth1 (pN 1) (mC (D.str "InvalidTable")) opAppend))
    sNx)
    (sSeq (sIf (mTr (mIsE (decL t_InvalidFault) c))
    (sEff (bMeth1 (pN 1) (mC (D.str "InvalidFault")) opAppend))
    sNx)
    (sSeq (sIf (mTr (mIsE (decL t_InvalidLateness) c))
    (sEff (bMeth1 (pN 1) (mC (D.str "InvalidLateness")) opAppend))
    sNx)
    (sSeq (sIf (mTr (mIsE (decL t_EmptyWindow) c))
    (sEff (bMeth1 (pN 1) (mC (D.str "EmptyWindow")) opAppend))
    sNx)
    (sSeq (sIf (mTr (mIsE (decL t_InvalidChain) c))
    (sEff (bMeth1 (pN 1) (mC (D.str "InvalidChain")) opAppend))
    sNx)
    (sSeq (sIf (mTr (mIsE (decL t_Unexplained) c))
    (sEff (bMeth1 (pN 1) (mC (D.str "Unexplained")) opAppend))
    sNx)
    (sSeq (sIf (mTr (mIsE (decL t_InvalidText) c))
    (sEff (bMeth1 (pN 1) (mC (D.str "InvalidText")) opAppend))
    sNx)
    (sSeq (sKill [1] (sIf (mAnd (mT (mOp eqD (mCall lenD (mCons (mV 1) mNil)) (mC (D.int 1)))) (mTr (mIsE (decL t_ValueError) c)))
    (sRet (mP (mOp subscr (mV 1) (mC (D.int 0)))))
    sNx))
    (sRet (mC (D.str ""))))))))))))))))))
def f_d_law_class_c : Nat → Option D := runE 2 b_d_law_class_c
abbrev N_d_law_told : List Str := ["_law_dawn_here", "_law_e", "_law_network"]
abbrev P_d_law_told : List Str := ["_law_dawn_here"]
def t1_d_law_told : SM :=
    (sKill [0] (sAsgX 2 (xMake f_m_Network_ddinit_x 0 (mCons (mV 0) mNil))))
def u1_d_law_told : Nat → List (Str × D) → SM :=
    fun c fs => (sSeq (sIf (mT (mOp eqD (mCls f_d_law_class_c c) (mC (D.str "InvalidNumber"))))
    (sRet (mTup (mCons (mC (D.str "InvalidNumber")) (mCons (mP (mFx (inL [8]) c fs "number")) mNil))))
    sNx)
    (sRet (mTup (mCons (mC (D.str "wrong")) (mCons (mC (D.int 0)) mNil)))))
def b_d_law_told : SM :=
    (sSeq (sKill [0] (sTry 1 (decL t_FogError) t1_d_law_told u1_d_law_told))
    (sEffR (mTupE (mECons (mLook (mC (D.str "let"))) (mECons (mTake 2) mENil)))))
def f_d_law_told : List D → Option (D × Ev) := fOfX (runX 1 3 b_d_law_told)
abbrev N_m_Network_lines : List Str := ["self", "rows", "seen", "viewer", "least", "most"]
abbrev P_m_Network_lines : List Str := ["self"]
abbrev N_d_law_is_integer : List Str := ["_law_found"]
abbrev P_d_law_is_integer : List Str := ["_law_found"]
abbrev N_m_Network_ddcontains : List Str := ["self", "name"]
abbrev P_m_Network_ddcontains : List Str := ["self", "name"]
abbrev N_m_Network_ddlen : List Str := ["self"]
abbrev P_m_Network_ddlen : List Str := ["self"]
abbrev N_m_Network_dditer : List Str := ["self"]
abbrev P_m_Network_dditer : List Str := ["self"]
abbrev N_d_law_is_new : List Str := ["_law_network", "_law_dawn_here", "_law_rows"]
abbrev P_d_law_is_new : List Str := ["_law_network", "_law_dawn_here"]
def b_d_law_is_new : SM :=
    (sSeq (sAsg 2 (mPos f_m_Network_lines (mRecv 0 "lines" (mV 0) mNil)))
    (sSeq (sKill [1] (sIf (mOr (mNot (mTr (mPos f_d_law_is_integer (mCons (mFld 0 "dawn" (mV 0)) mNil)))) (mT (mOp neD (mFld 0 "dawn" (mV 0)) (mV 1))))
    (sRet (mC (D.bl false)))
    sNx))
    (sSeq (sKill [2] (sIf (mOr (mNot (mTr (mIsi "list" (mV 2)))) (mT (mOp neD (mCall lenD (mCons (mV 2) mNil)) (mC (D.int 0)))))
    (sRet (mC (D.bl false)))
    sNx))
    (sRet (mAndV (mOp eqD (mCall (lenF 0 "names") (mCons (mV 0) mNil)) (mC (D.int 0))) (mAndV (mOp eqD (mCall (lstF 0 "names") (mCons (mV 0) mNil)) (mLst mNil)) (mOp (inOwnD 0 f_m_Network_ddcontains true) (mC (D.str "a")) (mV 0))))))))
def f_d_law_is_new : List D → Option (D × Ev) := runF 2 3 b_d_law_is_new
abbrev N_d_law_other_errors : List Str := ["_law_text", "_law_one", "_law_two", "_law_pair", "_law_rows", "_law_empty"]
abbrev P_d_law_other_errors : List Str := ["_law_text", "_law_one", "_law_two"]
def b_d_law_other_errors : SM :=
    (sSeq (sAsg 3 (mTup (mCons (mP (mV 0)) (mCons (mP (mV 0)) mNil))))
    (sSeq (sAsg 4 (mLst (mCons (mLst (mCons (mTup (mCons (mC (D.str "note")) (mCons (mP (mV 0)) (mCons (mP (mV 0)) (mCons (mP (mV 1)) mNil))))) mNil)) mNil)))
    (sSeq (sAsg 5 (mExc 12 ["name", "low", "high"] (mCons (mV 0) (mCons (mV 1) (mCons (mV 2) mNil)))))
    (sSeq (sKill [5, 2] (sIf (mOr (mT (mOp neD (mXfV (inL [3, 4, 7, 9, 12]) "name" (mV 5)) (mV 0))) (mOr (mT (mOp neD (mXfV (inL [12]) "low" (mV 5)) (mV 1))) (mT (mOp neD (mXfV (inL [12]) "high" (mV 5)) (mV 2)))))
    (sRet (mC (D.bl false)))
    sNx))
    (sSeq (sIf (mOr (mT (mOp neD (mXfV (inL [5]) "entry" (mExc 5 ["entry"] (mCons (mV 3) mNil))) (mV 3))) (mT (mOp neD (mXfV (inL [5]) "entry" (mExc 5 ["entry"] (mCons (mV 0) mNil))) (mV 0))))
    (sRet (mC (D.bl false)))
    sNx)
    (sSeq (sKill [3] (sIf (mOr (mT (mOp neD (mXfV (inL [10]) "fault" (mExc 10 ["fault"] (mCons (mTup (mCons (mP (mV 0)) (mCons (mC (D.str "err")) mNil))) mNil))) (mTup (mCons (mP (mV 0)) (mCons (mC (D.str "err")) mNil))))) (mT (mOp neD (mXfV (inL [11]) "pair" (mExc 11 ["pair"] (mCons (mV 3) mNil))) (mV 3))))
    (sRet (mC (D.bl false)))
    sNx))
    (sFrz 4 (sRet (mOp eqD (mXfV (inL [14]) "chains" (mExc 14 ["chains"] (mCons (mV 4) mNil))) (mLst (mCons (mLst (mCons (mTup (mCons (mC (D.str "note")) (mCons (mP (mV 0)) (mCons (mP (mV 0)) (mCons (mP (mV 1)) mNil))))) mNil)) mNil)))))))))))
def f_d_law_other_errors : List D → Option (D × Ev) := runF 3 6 b_d_law_other_errors
abbrev N_d_law_named_errors : List Str := ["_law_text", "_law_one", "_law_errors", "_law_error"]
abbrev P_d_law_named_errors : List Str := ["_law_text", "_law_one"]
def l1_d_law_named_errors : SM :=
    (sKill [3] (sIf (mOr (mT (mOp neD (mXfV (inL [3, 4, 7, 9, 12]) "name" (mV 3)) (mV 0))) (mOr (mNot (mTr (mIsV (decL t_FogError) (mV 3)))) (mNot (mTr (mIsV (decL t_ValueError) (mV 3))))))
    (sRet (mC (D.bl false)))
    sNx))
def b_d_law_named_errors : SM :=
    (sSeq (sAsg 2 (mLst (mCons (mExc 3 ["name"] (mCons (mV 0) mNil)) (mCons (mExc 4 ["name"] (mCons (mV 0) mNil)) (mCons (mExc 7 ["name"] (mCons (mV 0) mNil)) (mCons (mExc 9 ["name"] (mCons (mV 0) mNil)) mNil))))))
    (sSeq (sFrz 2 (sKill [2, 0] (sFor (mItems' (mP (mV 2))) (tgN 3) l1_d_law_named_errors)))
    (sSeq (sIf (mOr (mT (mOp neD (mXfV (inL [8]) "number" (mExc 8 ["number"] (mCons (mV 1) mNil))) (mV 1))) (mT (mOp neD (mXfV (inL [6]) "limit" (mExc 6 ["limit"] (mCons (mV 1) mNil))) (mV 1))))
    (sRet (mC (D.bl false)))
    sNx)
    (sRet (mAndV (mOp eqD (mXfV (inL [13]) "row" (mExc 13 ["row"] (mCons (mV 1) mNil))) (mV 1)) (mOp eqD (mXfV (inL [15]) "line" (mExc 15 ["line"] (mCons (mV 1) mNil))) (mV 1)))))))
def f_d_law_named_errors : List D → Option (D × Ev) := runF 2 4 b_d_law_named_errors
abbrev N_d_law : List Str := ["_law_script", "_law_choices", "_law_dawn_here", "_law_edge", "_law_near", "_law_beyond", "_law_networks", "_law_dawns", "_law_number", "_law_k", "_law_text", "_law_told_here"]
abbrev P_d_law : List Str := ["_law_script"]
def l1_d_law : SM :=
    (sSeq (sAsg 11 (mPos f_d_law_told (mCons (mV 8) mNil)))
    (sFrz 11 (sKill [8, 11] (sIf (mT (mCh leD leD (mC (D.int 1)) (mV 8) (mC (D.int 100))))
    (sSeq (sFrz 11 (sIf (mOr (mT (mOp neD (mOp subscr (mV 11) (mC (D.int 0))) (mC (D.str "let")))) (mNot (mTr (mPos f_d_law_is_new (mCons (mOp subscr (mV 11) (mC (D.int 1))) (mCons (mV 8) mNil))))))
    (sRet (mC (D.bl false)))
    sNx))
    (sSeq (sEff (bMeth1 (pN 6) (mP (mOp subscr (mV 11) (mC (D.int 1)))) opAppend))
    (sEff (bMeth1 (pN 7) (mP (mV 8)) opAppend))))
    (sFrz 11 (sIf (mOr (mT (mOp neD (mOp subscr (mV 11) (mC (D.int 0))) (mC (D.str "InvalidNumber")))) (mOr (mNot (mTr (mPos f_d_law_is_integer (mCons (mOp subscr (mV 11) (mC (D.int 1))) mNil)))) (mT (mOp neD (mOp subscr (mV 11) (mC (D.int 1))) (mV 8)))))
    (sRet (mC (D.bl false)))
    sNx))))))
def l2_d_law : SM :=
    (sKill [9] (sIf (mNot (mTr (mPos f_d_law_is_new (mCons (mOp subscr (mV 6) (mV 9)) (mCons (mOp subscr (mV 7) (mV 9)) mNil)))))
    (sRet (mC (D.bl false)))
    sNx))
def b_d_law : SM :=
    (sSeq (sAsg 1 (mPos f_d_law_row (mCons (mPos f_d_law_cell (mCons (mV 0) (mCons (mC (D.int 0)) mNil))) (mCons (mC (D.int 5)) mNil))))
    (sSeq (sKill [0] (sAsg 2 (mPos f_d_law_dawn (mCons (mPos f_d_law_cell (mCons (mV 0) (mCons (mC (D.int 1)) mNil))) (mCons (mV 1) mNil)))))
    (sSeq (sAsg 3 (mP (mOp subscr (mLst (mCons (mNeg (mC (D.int 1))) (mCons (mC (D.int 0)) (mCons (mC (D.int 1)) (mCons (mC (D.int 100)) (mCons (mC (D.int 101)) mNil)))))) (mOp modD (mCall intD (mCons (mOp subscr (mV 1) (mC (D.int 2))) mNil)) (mC (D.int 5))))))
    (sSeq (sFrz 2 (sAsg 4 (mCall maxD (mCons (mLst (mCons (mC (D.int 1)) (mCons (mCall minD (mCons (mLst (mCons (mC (D.int 100)) (mCons (mP (mV 2)) mNil))) mNil)) mNil))) mNil))))
    (sSeq (sAsg 5 (mP (mOp subscr (mLst (mCons (mC (D.int 0)) (mCons (mC (D.int 101)) mNil))) (mOp modD (mCall intD (mCons (mOp subscr (mV 1) (mC (D.int 4))) mNil)) (mC (D.int 2))))))
    (sSeq (sAsg 6 (mLst mNil))
    (sSeq (sAsg 7 (mLst mNil))
    (sSeq (sFrz 5 (sFrz 4 (sFrz 3 (sFrz 2 (sKill [5, 3] (sFor (mItems' (mLst (mCons (mP (mV 2)) (mCons (mP (mV 3)) (mCons (mP (mV 4)) (mCons (mP (mV 5)) (mCons (mP (mV 2)) mNil))))))) (tgN 8) l1_d_law))))))
    (sSeq (sKill [7, 6] (sFor (mRng1 (mCons (mCall lenD (mCons (mV 6) mNil)) mNil)) (tgN 9) l2_d_law))
    (sSeq (sKill [1] (sAsg 10 (mP (mOp subscr (mLst (mCons (mC (D.str "a")) (mCons (mC (D.str "")) (mCons (mC (D.str "Fog 1")) (mCons (mC (D.str "zz")) (mCons (mC (D.str "beacon")) mNil)))))) (mOp modD (mCall intD (mCons (mOp subscr (mV 1) (mC (D.int 3))) mNil)) (mC (D.int 5)))))))
    (sRet (mAndV (mPos f_d_law_named_errors (mCons (mV 10) (mCons (mV 2) mNil))) (mPos f_d_law_other_errors (mCons (mV 10) (mCons (mV 4) (mCons (mV 2) mNil))))))))))))))))
def f_d_law : List D → Option (D × Ev) := runF 1 12 b_d_law
/-! the walks -/
section
variable {P : Program} {w : World} {K : PySem.W.Frag} {mg : Str → Option Value} {base h : Heap}
theorem xo_InvalidName (cx : VI.SaysX file fa fn us xs ys K) : VI.XcOk K file X_InvalidName := VI.xcB_ok (cx.xc 0).1 (cx.xc 0).2
theorem xk_InvalidName (KX : K.In h) (G : h.Ns mainGlobals mg) (cx : VI.SaysX file fa fn us xs ys K) (pg : VI.PgOk P file) : VI.ExK P w K mg base (cl K 3) ["name"] 1 := by
  exact VI.exk1 (d := X_InvalidName) (N := ["self", "name", "__class__"]) (xo_InvalidName cx) pg (He.free_ok KX G (cx.u.fact 48 (f := .free "super") rfl)) rfl rfl (NdefX.nscope_by (by decide +kernel)) rfl rfl rfl rfl rfl rfl rfl (fun _ _ _ _ _ _ us hl => match us, hl with | [_, _], _ => rfl) (fun env => rfl)
theorem xo_UnknownKeeper (cx : VI.SaysX file fa fn us xs ys K) : VI.XcOk K file X_UnknownKeeper := VI.xcB_ok (cx.xc 1).1 (cx.xc 1).2
theorem xk_UnknownKeeper (KX : K.In h) (G : h.Ns mainGlobals mg) (cx : VI.SaysX file fa fn us xs ys K) (pg : VI.PgOk P file) : VI.ExK P w K mg base (cl K 4) ["name"] 1 := by
  exact VI.exk1 (d := X_UnknownKeeper) (N := ["self", "name", "__class__"]) (xo_UnknownKeeper cx) pg (He.free_ok KX G (cx.u.fact 48 (f := .free "super") rfl)) rfl rfl (NdefX.nscope_by (by decide +kernel)) rfl rfl rfl rfl rfl rfl rfl (fun _ _ _ _ _ _ us hl => match us, hl with | [_, _], _ => rfl) (fun env => rfl)
theorem xo_DuplicateEntry (cx : VI.SaysX file fa fn us xs ys K) : VI.XcOk K file X_DuplicateEntry := VI.xcB_ok (cx.xc 2).1 (cx.xc 2).2
theorem xk_DuplicateEntry (KX : K.In h) (G : h.Ns mainGlobals mg) (cx : VI.SaysX file fa fn us xs ys K) (pg : VI.PgOk P file) : VI.ExK P w K mg base (cl K 5) ["entry"] 1 := by
  exact VI.exk1 (d := X_DuplicateEntry) (N := ["self", "entry", "__class__"]) (xo_DuplicateEntry cx) pg (He.free_ok KX G (cx.u.fact 48 (f := .free "super") rfl)) rfl rfl (NdefX.nscope_by (by decide +kernel)) rfl rfl rfl rfl rfl rfl rfl (fun _ _ _ _ _ _ us hl => match us, hl with | [_, _], _ => rfl) (fun env => rfl)
theorem xo_NetworkFull (cx : VI.SaysX file fa fn us xs ys K) : VI.XcOk K file X_NetworkFull := VI.xcB_ok (cx.xc 3).1 (cx.xc 3).2
theorem xk_NetworkFull (KX : K.In h) (G : h.Ns mainGlobals mg) (cx : VI.SaysX file fa fn us xs ys K) (pg : VI.PgOk P file) : VI.ExK P w K mg base (cl K 6) ["limit"] 1 := by
  exact VI.exk1 (d := X_NetworkFull) (N := ["self", "limit", "__class__"]) (xo_NetworkFull cx) pg (He.free_ok KX G (cx.u.fact 48 (f := .free "super") rfl)) rfl rfl (NdefX.nscope_by (by decide +kernel)) rfl rfl rfl rfl rfl rfl rfl (fun _ _ _ _ _ _ us hl => match us, hl with | [_, _], _ => rfl) (fun env => rfl)
theorem xo_SelfLine (cx : VI.SaysX file fa fn us xs ys K) : VI.XcOk K file X_SelfLine := VI.xcB_ok (cx.xc 4).1 (cx.xc 4).2
theorem xk_SelfLine (KX : K.In h) (G : h.Ns mainGlobals mg) (cx : VI.SaysX file fa fn us xs ys K) (pg : VI.PgOk P file) : VI.ExK P w K mg base (cl K 7) ["name"] 1 := by
  exact VI.exk1 (d := X_SelfLine) (N := ["self", "name", "__class__"]) (xo_SelfLine cx) pg (He.free_ok KX G (cx.u.fact 48 (f := .free "super") rfl)) rfl rfl (NdefX.nscope_by (by decide +kernel)) rfl rfl rfl rfl rfl rfl rfl (fun _ _ _ _ _ _ us hl => match us, hl with | [_, _], _ => rfl) (fun env => rfl)
theorem xo_InvalidNumber (cx : VI.SaysX file fa fn us xs ys K) : VI.XcOk K file X_InvalidNumber := VI.xcB_ok (cx.xc 5).1 (cx.xc 5).2
theorem xk_InvalidNumber (KX : K.In h) (G : h.Ns mainGlobals mg) (cx : VI.SaysX file fa fn us xs ys K) (pg : VI.PgOk P file) : VI.ExK P w K mg base (cl K 8) ["number"] 1 := by
  exact VI.exk1 (d := X_InvalidNumber) (N := ["self", "number", "__class__"]) (xo_InvalidNumber cx) pg (He.free_ok KX G (cx.u.fact 48 (f := .free "super") rfl)) rfl rfl (NdefX.nscope_by (by decide +kernel)) rfl rfl rfl rfl rfl rfl rfl (fun _ _ _ _ _ _ us hl => match us, hl with | [_, _], _ => rfl) (fun env => rfl)
theorem xo_InvalidTable (cx : VI.SaysX file fa fn us xs ys K) : VI.XcOk K file X_InvalidTable := VI.xcB_ok (cx.xc 6).1 (cx.xc 6).2
theorem xk_InvalidTable (KX : K.In h) (G : h.Ns mainGlobals mg) (cx : VI.SaysX file fa fn us xs ys K) (pg : VI.PgOk P file) : VI.ExK P w K mg base (cl K 9) ["name"] 1 := by
  exact VI.exk1 (d := X_InvalidTable) (N := ["self", "name", "__class__"]) (xo_InvalidTable cx) pg (He.free_ok KX G (cx.u.fact 48 (f := .free "super") rfl)) rfl rfl (NdefX.nscope_by (by decide +kernel)) rfl rfl rfl rfl rfl rfl rfl (fun _ _ _ _ _ _ us hl => match us, hl with | [_, _], _ => rfl) (fun env => rfl)
theorem xo_InvalidFault (cx : VI.SaysX file fa fn us xs ys K) : VI.XcOk K file X_InvalidFault := VI.xcB_ok (cx.xc 7).1 (cx.xc 7).2
theorem xk_InvalidFault (KX : K.In h) (G : h.Ns mainGlobals mg) (cx : VI.SaysX file fa fn us xs ys K) (pg : VI.PgOk P file) : VI.ExK P w K mg base (cl K 10) ["fault"] 1 := by
  exact VI.exk1 (d := X_InvalidFault) (N := ["self", "fault", "__class__"]) (xo_InvalidFault cx) pg (He.free_ok KX G (cx.u.fact 48 (f := .free "super") rfl)) rfl rfl (NdefX.nscope_by (by decide +kernel)) rfl rfl rfl rfl rfl rfl rfl (fun _ _ _ _ _ _ us hl => match us, hl with | [_, _], _ => rfl) (fun env => rfl)
theorem xo_InvalidLateness (cx : VI.SaysX file fa fn us xs ys K) : VI.XcOk K file X_InvalidLateness := VI.xcB_ok (cx.xc 8).1 (cx.xc 8).2
theorem xk_InvalidLateness (KX : K.In h) (G : h.Ns mainGlobals mg) (cx : VI.SaysX file fa fn us xs ys K) (pg : VI.PgOk P file) : VI.ExK P w K mg base (cl K 11) ["pair"] 1 := by
  exact VI.exk1 (d := X_InvalidLateness) (N := ["self", "pair", "__class__"]) (xo_InvalidLateness cx) pg (He.free_ok KX G (cx.u.fact 48 (f := .free "super") rfl)) rfl rfl (NdefX.nscope_by (by decide +kernel)) rfl rfl rfl rfl rfl rfl rfl (fun _ _ _ _ _ _ us hl => match us, hl with | [_, _], _ => rfl) (fun env => rfl)
theorem xo_EmptyWindow (cx : VI.SaysX file fa fn us xs ys K) : VI.XcOk K file X_EmptyWindow := VI.xcB_ok (cx.xc 9).1 (cx.xc 9).2
theorem xk_EmptyWindow (KX : K.In h) (G : h.Ns mainGlobals mg) (cx : VI.SaysX file fa fn us xs ys K) (pg : VI.PgOk P file) : VI.ExK P w K mg base (cl K 12) ["name", "low", "high"] 1 := by
  exact VI.exk3 (d := X_EmptyWindow) (N := ["self", "name", "low", "high", "__class__"]) (xo_EmptyWindow cx) pg (He.free_ok KX G (cx.u.fact 48 (f := .free "super") rfl)) rfl rfl (NdefX.nscope_by (by decide +kernel)) rfl rfl rfl rfl rfl rfl rfl rfl rfl rfl rfl (fun _ _ _ _ _ _ us hl => match us, hl with | [_, _, _, _], _ => rfl) (fun env => rfl)
theorem xo_InvalidChain (cx : VI.SaysX file fa fn us xs ys K) : VI.XcOk K file X_InvalidChain := VI.xcB_ok (cx.xc 10).1 (cx.xc 10).2
theorem xk_InvalidChain (KX : K.In h) (G : h.Ns mainGlobals mg) (cx : VI.SaysX file fa fn us xs ys K) (pg : VI.PgOk P file) : VI.ExK P w K mg base (cl K 13) ["row"] 1 := by
  exact VI.exk1 (d := X_InvalidChain) (N := ["self", "row", "__class__"]) (xo_InvalidChain cx) pg (He.free_ok KX G (cx.u.fact 48 (f := .free "super") rfl)) rfl rfl (NdefX.nscope_by (by decide +kernel)) rfl rfl rfl rfl rfl rfl rfl (fun _ _ _ _ _ _ us hl => match us, hl with | [_, _], _ => rfl) (fun env => rfl)
theorem xo_Unexplained (cx : VI.SaysX file fa fn us xs ys K) : VI.XcOk K file X_Unexplained := VI.xcB_ok (cx.xc 11).1 (cx.xc 11).2
theorem xk_Unexplained (KX : K.In h) (G : h.Ns mainGlobals mg) (cx : VI.SaysX file fa fn us xs ys K) (pg : VI.PgOk P file) : VI.ExK P w K mg base (cl K 14) ["chains"] 1 := by
  exact VI.exk1 (d := X_Unexplained) (N := ["self", "chains", "__class__"]) (xo_Unexplained cx) pg (He.free_ok KX G (cx.u.fact 48 (f := .free "super") rfl)) rfl rfl (NdefX.nscope_by (by decide +kernel)) rfl rfl rfl rfl rfl rfl rfl (fun _ _ _ _ _ _ us hl => match us, hl with | [_, _], _ => rfl) (fun env => rfl)
theorem xo_InvalidText (cx : VI.SaysX file fa fn us xs ys K) : VI.XcOk K file X_InvalidText := VI.xcB_ok (cx.xc 12).1 (cx.xc 12).2
theorem xk_InvalidText (KX : K.In h) (G : h.Ns mainGlobals mg) (cx : VI.SaysX file fa fn us xs ys K) (pg : VI.PgOk P file) : VI.ExK P w K mg base (cl K 15) ["line"] 1 := by
  exact VI.exk1 (d := X_InvalidText) (N := ["self", "line", "__class__"]) (xo_InvalidText cx) pg (He.free_ok KX G (cx.u.fact 48 (f := .free "super") rfl)) rfl rfl (NdefX.nscope_by (by decide +kernel)) rfl rfl rfl rfl rfl rfl rfl (fun _ _ _ _ _ _ us hl => match us, hl with | [_, _], _ => rfl) (fun env => rfl)
theorem dx_FogError (cx : VI.SaysX file fa fn us xs ys K) : ∀ c b, VI.decL t_FogError c = some b → PySem.W.exmOne K (.ref (cl K c)) (.ref (He.ga K "FogError")) = some b := VI.decL_ok (p := fun c b => PySem.W.exmOne K (.ref (cl K c)) (.ref (He.ga K "FogError")) = some b) (VI.all_cons (VI.dec_exm (cx.lies 182) (cx.u.fact 20 (f := .glo "FogError") rfl)) (VI.all_cons (VI.dec_exm (cx.lies 183) (cx.u.fact 20 (f := .glo "FogError") rfl)) (VI.all_cons (VI.dec_exm (cx.lies 184) (cx.u.fact 20 (f := .glo "FogError") rfl)) (VI.all_cons (VI.dec_exm (cx.lies 185) (cx.u.fact 20 (f := .glo "FogError") rfl)) (VI.all_cons (VI.dec_exm (cx.lies 186) (cx.u.fact 20 (f := .glo "FogError") rfl)) (VI.all_cons (VI.dec_exm (cx.lies 187) (cx.u.fact 20 (f := .glo "FogError") rfl)) (VI.all_cons (VI.dec_exm (cx.lies 188) (cx.u.fact 20 (f := .glo "FogError") rfl)) (VI.all_cons (VI.dec_exm (cx.lies 189) (cx.u.fact 20 (f := .glo "FogError") rfl)) (VI.all_cons (VI.dec_exm (cx.lies 190) (cx.u.fact 20 (f := .glo "FogError") rfl)) (VI.all_cons (VI.dec_exm (cx.lies 191) (cx.u.fact 20 (f := .glo "FogError") rfl)) (VI.all_cons (VI.dec_exm (cx.lies 192) (cx.u.fact 20 (f := .glo "FogError") rfl)) (VI.all_cons (VI.dec_exm (cx.lies 193) (cx.u.fact 20 (f := .glo "FogError") rfl)) (VI.all_cons (VI.dec_exm (cx.lies 194) (cx.u.fact 20 (f := .glo "FogError") rfl)) VI.all_nil)))))))))))))
theorem di_InvalidName (cx : VI.SaysX file fa fn us xs ys K) : ∀ c b, VI.decL t_InvalidName c = some b → L2.ExcC K (cl K c) ∧ PySem.W.kitOne K (.ref (cl K c)) (.ref (He.ga K "InvalidName")) = some b := VI.decL_ok (p := fun c b => L2.ExcC K (cl K c) ∧ PySem.W.kitOne K (.ref (cl K c)) (.ref (He.ga K "InvalidName")) = some b) (VI.all_cons ⟨(xo_InvalidName cx).exc, VI.dec_ism (cx.lies 0) (cx.u.fact 21 (f := .glo "InvalidName") rfl)⟩ (VI.all_cons ⟨(xo_UnknownKeeper cx).exc, VI.dec_ism (cx.lies 1) (cx.u.fact 21 (f := .glo "InvalidName") rfl)⟩ (VI.all_cons ⟨(xo_DuplicateEntry cx).exc, VI.dec_ism (cx.lies 2) (cx.u.fact 21 (f := .glo "InvalidName") rfl)⟩ (VI.all_cons ⟨(xo_NetworkFull cx).exc, VI.dec_ism (cx.lies 3) (cx.u.fact 21 (f := .glo "InvalidName") rfl)⟩ (VI.all_cons ⟨(xo_SelfLine cx).exc, VI.dec_ism (cx.lies 4) (cx.u.fact 21 (f := .glo "InvalidName") rfl)⟩ (VI.all_cons ⟨(xo_InvalidNumber cx).exc, VI.dec_ism (cx.lies 5) (cx.u.fact 21 (f := .glo "InvalidName") rfl)⟩ (VI.all_cons ⟨(xo_InvalidTable cx).exc, VI.dec_ism (cx.lies 6) (cx.u.fact 21 (f := .glo "InvalidName") rfl)⟩ (VI.all_cons ⟨(xo_InvalidFault cx).exc, VI.dec_ism (cx.lies 7) (cx.u.fact 21 (f := .glo "InvalidName") rfl)⟩ (VI.all_cons ⟨(xo_InvalidLateness cx).exc, VI.dec_ism (cx.lies 8) (cx.u.fact 21 (f := .glo "InvalidName") rfl)⟩ (VI.all_cons ⟨(xo_EmptyWindow cx).exc, VI.dec_ism (cx.lies 9) (cx.u.fact 21 (f := .glo "InvalidName") rfl)⟩ (VI.all_cons ⟨(xo_InvalidChain cx).exc, VI.dec_ism (cx.lies 10) (cx.u.fact 21 (f := .glo "InvalidName") rfl)⟩ (VI.all_cons ⟨(xo_Unexplained cx).exc, VI.dec_ism (cx.lies 11) (cx.u.fact 21 (f := .glo "InvalidName") rfl)⟩ (VI.all_cons ⟨(xo_InvalidText cx).exc, VI.dec_ism (cx.lies 12) (cx.u.fact 21 (f := .glo "InvalidName") rfl)⟩ VI.all_nil)))))))))))))
theorem di_UnknownKeeper (cx : VI.SaysX file fa fn us xs ys K) : ∀ c b, VI.decL t_UnknownKeeper c = some b → L2.ExcC K (cl K c) ∧ PySem.W.kitOne K (.ref (cl K c)) (.ref (He.ga K "UnknownKeeper")) = some b := VI.decL_ok (p := fun c b => L2.ExcC K (cl K c) ∧ PySem.W.kitOne K (.ref (cl K c)) (.ref (He.ga K "UnknownKeeper")) = some b) (VI.all_cons ⟨(xo_InvalidName cx).exc, VI.dec_ism (cx.lies 13) (cx.u.fact 23 (f := .glo "UnknownKeeper") rfl)⟩ (VI.all_cons ⟨(xo_UnknownKeeper cx).exc, VI.dec_ism (cx.lies 14) (cx.u.fact 23 (f := .glo "UnknownKeeper") rfl)⟩ (VI.all_cons ⟨(xo_DuplicateEntry cx).exc, VI.dec_ism (cx.lies 15) (cx.u.fact 23 (f := .glo "UnknownKeeper") rfl)⟩ (VI.all_cons ⟨(xo_NetworkFull cx).exc, VI.dec_ism (cx.lies 16) (cx.u.fact 23 (f := .glo "UnknownKeeper") rfl)⟩ (VI.all_cons ⟨(xo_SelfLine cx).exc, VI.dec_ism (cx.lies 17) (cx.u.fact 23 (f := .glo "UnknownKeeper") rfl)⟩ (VI.all_cons ⟨(xo_InvalidNumber cx).exc, VI.dec_ism (cx.lies 18) (cx.u.fact 23 (f := .glo "UnknownKeeper") rfl)⟩ (VI.all_cons ⟨(xo_InvalidTable cx).exc, VI.dec_ism (cx.lies 19) (cx.u.fact 23 (f := .glo "UnknownKeeper") rfl)⟩ (VI.all_cons ⟨(xo_InvalidFault cx).exc, VI.dec_ism (cx.lies 20) (cx.u.fact 23 (f := .glo "UnknownKeeper") rfl)⟩ (VI.all_cons ⟨(xo_InvalidLateness cx).exc, VI.dec_ism (cx.lies 21) (cx.u.fact 23 (f := .glo "UnknownKeeper") rfl)⟩ (VI.all_cons ⟨(xo_EmptyWindow cx).exc, VI.dec_ism (cx.lies 22) (cx.u.fact 23 (f := .glo "UnknownKeeper") rfl)⟩ (VI.all_cons ⟨(xo_InvalidChain cx).exc, VI.dec_ism (cx.lies 23) (cx.u.fact 23 (f := .glo "UnknownKeeper") rfl)⟩ (VI.all_cons ⟨(xo_Unexplained cx).exc, VI.dec_ism (cx.lies 24) (cx.u.fact 23 (f := .glo "UnknownKeeper") rfl)⟩ (VI.all_cons ⟨(xo_InvalidText cx).exc, VI.dec_ism (cx.lies 25) (cx.u.fact 23 (f := .glo "UnknownKeeper") rfl)⟩ VI.all_nil)))))))))))))
theorem di_DuplicateEntry (cx : VI.SaysX file fa fn us xs ys K) : ∀ c b, VI.decL t_DuplicateEntry c = some b → L2.ExcC K (cl K c) ∧ PySem.W.kitOne K (.ref (cl K c)) (.ref (He.ga K "DuplicateEntry")) = some b := VI.decL_ok (p := fun c b => L2.ExcC K (cl K c) ∧ PySem.W.kitOne K (.ref (cl K c)) (.ref (He.ga K "DuplicateEntry")) = some b) (VI.all_cons ⟨(xo_InvalidName cx).exc, VI.dec_ism (cx.lies 26) (cx.u.fact 24 (f := .glo "DuplicateEntry") rfl)⟩ (VI.all_cons ⟨(xo_UnknownKeeper cx).exc, VI.dec_ism (cx.lies 27) (cx.u.fact 24 (f := .glo "DuplicateEntry") rfl)⟩ (VI.all_cons ⟨(xo_DuplicateEntry cx).exc, VI.dec_ism (cx.lies 28) (cx.u.fact 24 (f := .glo "DuplicateEntry") rfl)⟩ (VI.all_cons ⟨(xo_NetworkFull cx).exc, VI.dec_ism (cx.lies 29) (cx.u.fact 24 (f := .glo "DuplicateEntry") rfl)⟩ (VI.all_cons ⟨(xo_SelfLine cx).exc, VI.dec_ism (cx.lies 30) (cx.u.fact 24 (f := .glo "DuplicateEntry") rfl)⟩ (VI.all_cons ⟨(xo_InvalidNumber cx).exc, VI.dec_ism (cx.lies 31) (cx.u.fact 24 (f := .glo "DuplicateEntry") rfl)⟩ (VI.all_cons ⟨(xo_InvalidTable cx).exc, VI.dec_ism (cx.lies 32) (cx.u.fact 24 (f := .glo "DuplicateEntry") rfl)⟩ (VI.all_cons ⟨(xo_InvalidFault cx).exc, VI.dec_ism (cx.lies 33) (cx.u.fact 24 (f := .glo "DuplicateEntry") rfl)⟩ (VI.all_cons ⟨(xo_InvalidLateness cx).exc, VI.dec_ism (cx.lies 34) (cx.u.fact 24 (f := .glo "DuplicateEntry") rfl)⟩ (VI.all_cons ⟨(xo_EmptyWindow cx).exc, VI.dec_ism (cx.lies 35) (cx.u.fact 24 (f := .glo "DuplicateEntry") rfl)⟩ (VI.all_cons ⟨(xo_InvalidChain cx).exc, VI.dec_ism (cx.lies 36) (cx.u.fact 24 (f := .glo "DuplicateEntry") rfl)⟩ (VI.all_cons ⟨(xo_Unexplained cx).exc, VI.dec_ism (cx.lies 37) (cx.u.fact 24 (f := .glo "DuplicateEntry") rfl)⟩ (VI.all_cons ⟨(xo_InvalidText cx).exc, VI.dec_ism (cx.lies 38) (cx.u.fact 24 (f := .glo "DuplicateEntry") rfl)⟩ VI.all_nil)))))))))))))
theorem di_NetworkFull (cx : VI.SaysX file fa fn us xs ys K) : ∀ c b, VI.decL t_NetworkFull c = some b → L2.ExcC K (cl K c) ∧ PySem.W.kitOne K (.ref (cl K c)) (.ref (He.ga K "NetworkFull")) = some b := VI.decL_ok (p := fun c b => L2.ExcC K (cl K c) ∧ PySem.W.kitOne K (.ref (cl K c)) (.ref (He.ga K "NetworkFull")) = some b) (VI.all_cons ⟨(xo_InvalidName cx).exc, VI.dec_ism (cx.lies 39) (cx.u.fact 25 (f := .glo "NetworkFull") rfl)⟩ (VI.all_cons ⟨(xo_UnknownKeeper cx).exc, VI.dec_ism (cx.lies 40) (cx.u.fact 25 (f := .glo "NetworkFull") rfl)⟩ (VI.all_cons ⟨(xo_DuplicateEntry cx).exc, VI.dec_ism (cx.lies 41) (cx.u.fact 25 (f := .glo "NetworkFull") rfl)⟩ (VI.all_cons ⟨(xo_NetworkFull cx).exc, VI.dec_ism (cx.lies 42) (cx.u.fact 25 (f := .glo "NetworkFull") rfl)⟩ (VI.all_cons ⟨(xo_SelfLine cx).exc, VI.dec_ism (cx.lies 43) (cx.u.fact 25 (f := .glo "NetworkFull") rfl)⟩ (VI.all_cons ⟨(xo_InvalidNumber cx).exc, VI.dec_ism (cx.lies 44) (cx.u.fact 25 (f := .glo "NetworkFull") rfl)⟩ (VI.all_cons ⟨(xo_InvalidTable cx).exc, VI.dec_ism (cx.lies 45) (cx.u.fact 25 (f := .glo "NetworkFull") rfl)⟩ (VI.all_cons ⟨(xo_InvalidFault cx).exc, VI.dec_ism (cx.lies 46) (cx.u.fact 25 (f := .glo "NetworkFull") rfl)⟩ (VI.all_cons ⟨(xo_InvalidLateness cx).exc, VI.dec_ism (cx.lies 47) (cx.u.fact 25 (f := .glo "NetworkFull") rfl)⟩ (VI.all_cons ⟨(xo_EmptyWindow cx).exc, VI.dec_ism (cx.lies 48) (cx.u.fact 25 (f := .glo "NetworkFull") rfl)⟩ (VI.all_cons ⟨(xo_InvalidChain cx).exc, VI.dec_ism (cx.lies 49) (cx.u.fact 25 (f := .glo "NetworkFull") rfl)⟩ (VI.all_cons ⟨(xo_Unexplained cx).exc, VI.dec_ism (cx.lies 50) (cx.u.fact 25 (f := .glo "NetworkFull") rfl)⟩ (VI.all_cons ⟨(xo_InvalidText cx).exc, VI.dec_ism (cx.lies 51) (cx.u.fact 25 (f := .glo "NetworkFull") rfl)⟩ VI.all_nil)))))))))))))
theorem di_SelfLine (cx : VI.SaysX file fa fn us xs ys K) : ∀ c b, VI.decL t_SelfLine c = some b → L2.ExcC K (cl K c) ∧ PySem.W.kitOne K (.ref (cl K c)) (.ref (He.ga K "SelfLine")) = some b := VI.decL_ok (p := fun c b => L2.ExcC K (cl K c) ∧ PySem.W.kitOne K (.ref (cl K c)) (.ref (He.ga K "SelfLine")) = some b) (VI.all_cons ⟨(xo_InvalidName cx).exc, VI.dec_ism (cx.lies 52) (cx.u.fact 26 (f := .glo "SelfLine") rfl)⟩ (VI.all_cons ⟨(xo_UnknownKeeper cx).exc, VI.dec_ism (cx.lies 53) (cx.u.fact 26 (f := .glo "SelfLine") rfl)⟩ (VI.all_cons ⟨(xo_DuplicateEntry cx).exc, VI.dec_ism (cx.lies 54) (cx.u.fact 26 (f := .glo "SelfLine") rfl)⟩ (VI.all_cons ⟨(xo_NetworkFull cx).exc, VI.dec_ism (cx.lies 55) (cx.u.fact 26 (f := .glo "SelfLine") rfl)⟩ (VI.all_cons ⟨(xo_SelfLine cx).exc, VI.dec_ism (cx.lies 56) (cx.u.fact 26 (f := .glo "SelfLine") rfl)⟩ (VI.all_cons ⟨(xo_InvalidNumber cx).exc, VI.dec_ism (cx.lies 57) (cx.u.fact 26 (f := .glo "SelfLine") rfl)⟩ (VI.all_cons ⟨(xo_InvalidTable cx).exc, VI.dec_ism (cx.lies 58) (cx.u.fact 26 (f := .glo "SelfLine") rfl)⟩ (VI.all_cons ⟨(xo_InvalidFault cx).exc, VI.dec_ism (cx.lies 59) (cx.u.fact 26 (f := .glo "SelfLine") rfl)⟩ (VI.all_cons ⟨(xo_InvalidLateness cx).exc, VI.dec_ism (cx.lies 60) (cx.u.fact 26 (f := .glo "SelfLine") rfl)⟩ (VI.all_cons ⟨(xo_EmptyWindow cx).exc, VI.dec_ism (cx.lies 61) (cx.u.fact 26 (f := .glo "SelfLine") rfl)⟩ (VI.all_cons ⟨(xo_InvalidChain cx).exc, VI.dec_ism (cx.lies 62) (cx.u.fact 26 (f := .glo "SelfLine") rfl)⟩ (VI.all_cons ⟨(xo_Unexplained cx).exc, VI.dec_ism (cx.lies 63) (cx.u.fact 26 (f := .glo "SelfLine") rfl)⟩ (VI.all_cons ⟨(xo_InvalidText cx).exc, VI.dec_ism (cx.lies 64) (cx.u.fact 26 (f := .glo "SelfLine") rfl)⟩ VI.all_nil)))))))))))))
theorem di_InvalidNumber (cx : VI.SaysX file fa fn us xs ys K) : ∀ c b, VI.decL t_InvalidNumber c = some b → L2.ExcC K (cl K c) ∧ PySem.W.kitOne K (.ref (cl K c)) (.ref (He.ga K "InvalidNumber")) = some b := VI.decL_ok (p := fun c b => L2.ExcC K (cl K c) ∧ PySem.W.kitOne K (.ref (cl K c)) (.ref (He.ga K "InvalidNumber")) = some b) (VI.all_cons ⟨(xo_InvalidName cx).exc, VI.dec_ism (cx.lies 65) (cx.u.fact 10 (f := .glo "InvalidNumber") rfl)⟩ (VI.all_cons ⟨(xo_UnknownKeeper cx).exc, VI.dec_ism (cx.lies 66) (cx.u.fact 10 (f := .glo "InvalidNumber") rfl)⟩ (VI.all_cons ⟨(xo_DuplicateEntry cx).exc, VI.dec_ism (cx.lies 67) (cx.u.fact 10 (f := .glo "InvalidNumber") rfl)⟩ (VI.all_cons ⟨(xo_NetworkFull cx).exc, VI.dec_ism (cx.lies 68) (cx.u.fact 10 (f := .glo "InvalidNumber") rfl)⟩ (VI.all_cons ⟨(xo_SelfLine cx).exc, VI.dec_ism (cx.lies 69) (cx.u.fact 10 (f := .glo "InvalidNumber") rfl)⟩ (VI.all_cons ⟨(xo_InvalidNumber cx).exc, VI.dec_ism (cx.lies 70) (cx.u.fact 10 (f := .glo "InvalidNumber") rfl)⟩ (VI.all_cons ⟨(xo_InvalidTable cx).exc, VI.dec_ism (cx.lies 71) (cx.u.fact 10 (f := .glo "InvalidNumber") rfl)⟩ (VI.all_cons ⟨(xo_InvalidFault cx).exc, VI.dec_ism (cx.lies 72) (cx.u.fact 10 (f := .glo "InvalidNumber") rfl)⟩ (VI.all_cons ⟨(xo_InvalidLateness cx).exc, VI.dec_ism (cx.lies 73) (cx.u.fact 10 (f := .glo "InvalidNumber") rfl)⟩ (VI.all_cons ⟨(xo_EmptyWindow cx).exc, VI.dec_ism (cx.lies 74) (cx.u.fact 10 (f := .glo "InvalidNumber") rfl)⟩ (VI.all_cons ⟨(xo_InvalidChain cx).exc, VI.dec_ism (cx.lies 75) (cx.u.fact 10 (f := .glo "InvalidNumber") rfl)⟩ (VI.all_cons ⟨(xo_Unexplained cx).exc, VI.dec_ism (cx.lies 76) (cx.u.fact 10 (f := .glo "InvalidNumber") rfl)⟩ (VI.all_cons ⟨(xo_InvalidText cx).exc, VI.dec_ism (cx.lies 77) (cx.u.fact 10 (f := .glo "InvalidNumber") rfl)⟩ VI.all_nil)))))))))))))
theorem di_InvalidTable (cx : VI.SaysX file fa fn us xs ys K) : ∀ c b, VI.decL t_InvalidTable c = some b → L2.ExcC K (cl K c) ∧ PySem.W.kitOne K (.ref (cl K c)) (.ref (He.ga K "InvalidTable")) = some b := VI.decL_ok (p := fun c b => L2.ExcC K (cl K c) ∧ PySem.W.kitOne K (.ref (cl K c)) (.ref (He.ga K "InvalidTable")) = some b) (VI.all_cons ⟨(xo_InvalidName cx).exc, VI.dec_ism (cx.lies 78) (cx.u.fact 27 (f := .glo "InvalidTable") rfl)⟩ (VI.all_cons ⟨(xo_UnknownKeeper cx).exc, VI.dec_ism (cx.lies 79) (cx.u.fact 27 (f := .glo "InvalidTable") rfl)⟩ (VI.all_cons ⟨(xo_DuplicateEntry cx).exc, VI.dec_ism (cx.lies 80) (cx.u.fact 27 (f := .glo "InvalidTable") rfl)⟩ (VI.all_cons ⟨(xo_NetworkFull cx).exc, VI.dec_ism (cx.lies 81) (cx.u.fact 27 (f := .glo "InvalidTable") rfl)⟩ (VI.all_cons ⟨(xo_SelfLine cx).exc, VI.dec_ism (cx.lies 82) (cx.u.fact 27 (f := .glo "InvalidTable") rfl)⟩ (VI.all_cons ⟨(xo_InvalidNumber cx).exc, VI.dec_ism (cx.lies 83) (cx.u.fact 27 (f := .glo "InvalidTable") rfl)⟩ (VI.all_cons ⟨(xo_InvalidTable cx).exc, VI.dec_ism (cx.lies 84) (cx.u.fact 27 (f := .glo "InvalidTable") rfl)⟩ (VI.all_cons ⟨(xo_InvalidFault cx).exc, VI.dec_ism (cx.lies 85) (cx.u.fact 27 (f := .glo "InvalidTable") rfl)⟩ (VI.all_cons ⟨(xo_InvalidLateness cx).exc, VI.dec_ism (cx.lies 86) (cx.u.fact 27 (f := .glo "InvalidTable") rfl)⟩ (VI.all_cons ⟨(xo_EmptyWindow cx).exc, VI.dec_ism (cx.lies 87) (cx.u.fact 27 (f := .glo "InvalidTable") rfl)⟩ (VI.all_cons ⟨(xo_InvalidChain cx).exc, VI.dec_ism (cx.lies 88) (cx.u.fact 27 (f := .glo "InvalidTable") rfl)⟩ (VI.all_cons ⟨(xo_Unexplained cx).exc, VI.dec_ism (cx.lies 89) (cx.u.fact 27 (f := .glo "InvalidTable") rfl)⟩ (VI.all_cons ⟨(xo_InvalidText cx).exc, VI.dec_ism (cx.lies 90) (cx.u.fact 27 (f := .glo "InvalidTable") rfl)⟩ VI.all_nil)))))))))))))
theorem di_InvalidFault (cx : VI.SaysX file fa fn us xs ys K) : ∀ c b, VI.decL t_InvalidFault c = some b → L2.ExcC K (cl K c) ∧ PySem.W.kitOne K (.ref (cl K c)) (.ref (He.ga K "InvalidFault")) = some b := VI.decL_ok (p := fun c b => L2.ExcC K (cl K c) ∧ PySem.W.kitOne K (.ref (cl K c)) (.ref (He.ga K "InvalidFault")) = some b) (VI.all_cons ⟨(xo_InvalidName cx).exc, VI.dec_ism (cx.lies 91) (cx.u.fact 28 (f := .glo "InvalidFault") rfl)⟩ (VI.all_cons ⟨(xo_UnknownKeeper cx).exc, VI.dec_ism (cx.lies 92) (cx.u.fact 28 (f := .glo "InvalidFault") rfl)⟩ (VI.all_cons ⟨(xo_DuplicateEntry cx).exc, VI.dec_ism (cx.lies 93) (cx.u.fact 28 (f := .glo "InvalidFault") rfl)⟩ (VI.all_cons ⟨(xo_NetworkFull cx).exc, VI.dec_ism (cx.lies 94) (cx.u.fact 28 (f := .glo "InvalidFault") rfl)⟩ (VI.all_cons ⟨(xo_SelfLine cx).exc, VI.dec_ism (cx.lies 95) (cx.u.fact 28 (f := .glo "InvalidFault") rfl)⟩ (VI.all_cons ⟨(xo_InvalidNumber cx).exc, VI.dec_ism (cx.lies 96) (cx.u.fact 28 (f := .glo "InvalidFault") rfl)⟩ (VI.all_cons ⟨(xo_InvalidTable cx).exc, VI.dec_ism (cx.lies 97) (cx.u.fact 28 (f := .glo "InvalidFault") rfl)⟩ (VI.all_cons ⟨(xo_InvalidFault cx).exc, VI.dec_ism (cx.lies 98) (cx.u.fact 28 (f := .glo "InvalidFault") rfl)⟩ (VI.all_cons ⟨(xo_InvalidLateness cx).exc, VI.dec_ism (cx.lies 99) (cx.u.fact 28 (f := .glo "InvalidFault") rfl)⟩ (VI.all_cons ⟨(xo_EmptyWindow cx).exc, VI.dec_ism (cx.lies 100) (cx.u.fact 28 (f := .glo "InvalidFault") rfl)⟩ (VI.all_cons ⟨(xo_InvalidChain cx).exc, VI.dec_ism (cx.lies 101) (cx.u.fact 28 (f := .glo "InvalidFault") rfl)⟩ (VI.all_cons ⟨(xo_Unexplained cx).exc, VI.dec_ism (cx.lies 102) (cx.u.fact 28 (f := .glo "InvalidFault") rfl)⟩ (VI.all_cons ⟨(xo_InvalidText cx).exc, VI.dec_ism (cx.lies 103) (cx.u.fact 28 (f := .glo "InvalidFault") rfl)⟩ VI.all_nil)))))))))))))
theorem di_InvalidLateness (cx : VI.SaysX file fa fn us xs ys K) : ∀ c b, VI.decL t_InvalidLateness c = some b → L2.ExcC K (cl K c) ∧ PySem.W.kitOne K (.ref (cl K c)) (.ref (He.ga K "InvalidLateness")) = some b := VI.decL_ok (p := fun c b => L2.ExcC K (cl K c) ∧ PySem.W.kitOne K (.ref (cl K c)) (.ref (He.ga K "InvalidLateness")) = some b) (VI.all_cons ⟨(xo_InvalidName cx).exc, VI.dec_ism (cx.lies 104) (cx.u.fact 29 (f := .glo "InvalidLateness") rfl)⟩ (VI.all_cons ⟨(xo_UnknownKeeper cx).exc, VI.dec_ism (cx.lies 105) (cx.u.fact 29 (f := .glo "InvalidLateness") rfl)⟩ (VI.all_cons ⟨(xo_DuplicateEntry cx).exc, VI.dec_ism (cx.lies 106) (cx.u.fact 29 (f := .glo "InvalidLateness") rfl)⟩ (VI.all_cons ⟨(xo_NetworkFull cx).exc, VI.dec_ism (cx.lies 107) (cx.u.fact 29 (f := .glo "InvalidLateness") rfl)⟩ (VI.all_cons ⟨(xo_SelfLine cx).exc, VI.dec_ism (cx.lies 108) (cx.u.fact 29 (f := .glo "InvalidLateness") rfl)⟩ (VI.all_cons ⟨(xo_InvalidNumber cx).exc, VI.dec_ism (cx.lies 109) (cx.u.fact 29 (f := .glo "InvalidLateness") rfl)⟩ (VI.all_cons ⟨(xo_InvalidTable cx).exc, VI.dec_ism (cx.lies 110) (cx.u.fact 29 (f := .glo "InvalidLateness") rfl)⟩ (VI.all_cons ⟨(xo_InvalidFault cx).exc, VI.dec_ism (cx.lies 111) (cx.u.fact 29 (f := .glo "InvalidLateness") rfl)⟩ (VI.all_cons ⟨(xo_InvalidLateness cx).exc, VI.dec_ism (cx.lies 112) (cx.u.fact 29 (f := .glo "InvalidLateness") rfl)⟩ (VI.all_cons ⟨(xo_EmptyWindow cx).exc, VI.dec_ism (cx.lies 113) (cx.u.fact 29 (f := .glo "InvalidLateness") rfl)⟩ (VI.all_cons ⟨(xo_InvalidChain cx).exc, VI.dec_ism (cx.lies 114) (cx.u.fact 29 (f := .glo "InvalidLateness") rfl)⟩ (VI.all_cons ⟨(xo_Unexplained cx).exc, VI.dec_ism (cx.lies 115) (cx.u.fact 29 (f := .glo "InvalidLateness") rfl)⟩ (VI.all_cons ⟨(xo_InvalidText cx).exc, VI.dec_ism (cx.lies 116) (cx.u.fact 29 (f := .glo "InvalidLateness") rfl)⟩ VI.all_nil)))))))))))))
theorem di_EmptyWindow (cx : VI.SaysX file fa fn us xs ys K) : ∀ c b, VI.decL t_EmptyWindow c = some b → L2.ExcC K (cl K c) ∧ PySem.W.kitOne K (.ref (cl K c)) (.ref (He.ga K "EmptyWindow")) = some b := VI.decL_ok (p := fun c b => L2.ExcC K (cl K c) ∧ PySem.W.kitOne K (.ref (cl K c)) (.ref (He.ga K "EmptyWindow")) = some b) (VI.all_cons ⟨(xo_InvalidName cx).exc, VI.dec_ism (cx.lies 117) (cx.u.fact 30 (f := .glo "EmptyWindow") rfl)⟩ (VI.all_cons ⟨(xo_UnknownKeeper cx).exc, VI.dec_ism (cx.lies 118) (cx.u.fact 30 (f := .glo "EmptyWindow") rfl)⟩ (VI.all_cons ⟨(xo_DuplicateEntry cx).exc, VI.dec_ism (cx.lies 119) (cx.u.fact 30 (f := .glo "EmptyWindow") rfl)⟩ (VI.all_cons ⟨(xo_NetworkFull cx).exc, VI.dec_ism (cx.lies 120) (cx.u.fact 30 (f := .glo "EmptyWindow") rfl)⟩ (VI.all_cons ⟨(xo_SelfLine cx).exc, VI.dec_ism (cx.lies 121) (cx.u.fact 30 (f := .glo "EmptyWindow") rfl)⟩ (VI.all_cons ⟨(xo_InvalidNumber cx).exc, VI.dec_ism (cx.lies 122) (cx.u.fact 30 (f := .glo "EmptyWindow") rfl)⟩ (VI.all_cons ⟨(xo_InvalidTable cx).exc, VI.dec_ism (cx.lies 123) (cx.u.fact 30 (f := .glo "EmptyWindow") rfl)⟩ (VI.all_cons ⟨(xo_InvalidFault cx).exc, VI.dec_ism (cx.lies 124) (cx.u.fact 30 (f := .glo "EmptyWindow") rfl)⟩ (VI.all_cons ⟨(xo_InvalidLateness cx).exc, VI.dec_ism (cx.lies 125) (cx.u.fact 30 (f := .glo "EmptyWindow") rfl)⟩ (VI.all_cons ⟨(xo_EmptyWindow cx).exc, VI.dec_ism (cx.lies 126) (cx.u.fact 30 (f := .glo "EmptyWindow") rfl)⟩ (VI.all_cons ⟨(xo_InvalidChain cx).exc, VI.dec_ism (cx.lies 127) (cx.u.fact 30 (f := .glo "EmptyWindow") rfl)⟩ (VI.all_cons ⟨(xo_Unexplained cx).exc, VI.dec_ism (cx.lies 128) (cx.u.fact 30 (f := .glo "EmptyWindow") rfl)⟩ (VI.all_cons ⟨(xo_InvalidText cx).exc, VI.dec_ism (cx.lies 129) (cx.u.fact 30 (f := .glo "EmptyWindow") rfl)⟩ VI.all_nil)))))))))))))
theorem di_InvalidChain (cx : VI.SaysX file fa fn us xs ys K) : ∀ c b, VI.decL t_InvalidChain c = some b → L2.ExcC K (cl K c) ∧ PySem.W.kitOne K (.ref (cl K c)) (.ref (He.ga K "InvalidChain")) = some b := VI.decL_ok (p := fun c b => L2.ExcC K (cl K c) ∧ PySem.W.kitOne K (.ref (cl K c)) (.ref (He.ga K "InvalidChain")) = some b) (VI.all_cons ⟨(xo_InvalidName cx).exc, VI.dec_ism (cx.lies 130) (cx.u.fact 31 (f := .glo "InvalidChain") rfl)⟩ (VI.all_cons ⟨(xo_UnknownKeeper cx).exc, VI.dec_ism (cx.lies 131) (cx.u.fact 31 (f := .glo "InvalidChain") rfl)⟩ (VI.all_cons ⟨(xo_DuplicateEntry cx).exc, VI.dec_ism (cx.lies 132) (cx.u.fact 31 (f := .glo "InvalidChain") rfl)⟩ (VI.all_cons ⟨(xo_NetworkFull cx).exc, VI.dec_ism (cx.lies 133) (cx.u.fact 31 (f := .glo "InvalidChain") rfl)⟩ (VI.all_cons ⟨(xo_SelfLine cx).exc, VI.dec_ism (cx.lies 134) (cx.u.fact 31 (f := .glo "InvalidChain") rfl)⟩ (VI.all_cons ⟨(xo_InvalidNumber cx).exc, VI.dec_ism (cx.lies 135) (cx.u.fact 31 (f := .glo "InvalidChain") rfl)⟩ (VI.all_cons ⟨(xo_InvalidTable cx).exc, VI.dec_ism (cx.lies 136) (cx.u.fact 31 (f := .glo "InvalidChain") rfl)⟩ (VI.all_cons ⟨(xo_InvalidFault cx).exc, VI.dec_ism (cx.lies 137) (cx.u.fact 31 (f := .glo "InvalidChain") rfl)⟩ (VI.all_cons ⟨(xo_InvalidLateness cx).exc, VI.dec_ism (cx.lies 138) (cx.u.fact 31 (f := .glo "InvalidChain") rfl)⟩ (VI.all_cons ⟨(xo_EmptyWindow cx).exc, VI.dec_ism (cx.lies 139) (cx.u.fact 31 (f := .glo "InvalidChain") rfl)⟩ (VI.all_cons ⟨(xo_InvalidChain cx).exc, VI.dec_ism (cx.lies 140) (cx.u.fact 31 (f := .glo "InvalidChain") rfl)⟩ (VI.all_cons ⟨(xo_Unexplained cx).exc, VI.dec_ism (cx.lies 141) (cx.u.fact 31 (f := .glo "InvalidChain") rfl)⟩ (VI.all_cons ⟨(xo_InvalidText cx).exc, VI.dec_ism (cx.lies 142) (cx.u.fact 31 (f := .glo "InvalidChain") rfl)⟩ VI.all_nil)))))))))))))
theorem di_Unexplained (cx : VI.SaysX file fa fn us xs ys K) : ∀ c b, VI.decL t_Unexplained c = some b → L2.ExcC K (cl K c) ∧ PySem.W.kitOne K (.ref (cl K c)) (.ref (He.ga K "Unexplained")) = some b := VI.decL_ok (p := fun c b => L2.ExcC K (cl K c) ∧ PySem.W.kitOne K (.ref (cl K c)) (.ref (He.ga K "Unexplained")) = some b) (VI.all_cons ⟨(xo_InvalidName cx).exc, VI.dec_ism (cx.lies 143) (cx.u.fact 32 (f := .glo "Unexplained") rfl)⟩ (VI.all_cons ⟨(xo_UnknownKeeper cx).exc, VI.dec_ism (cx.lies 144) (cx.u.fact 32 (f := .glo "Unexplained") rfl)⟩ (VI.all_cons ⟨(xo_DuplicateEntry cx).exc, VI.dec_ism (cx.lies 145) (cx.u.fact 32 (f := .glo "Unexplained") rfl)⟩ (VI.all_cons ⟨(xo_NetworkFull cx).exc, VI.dec_ism (cx.lies 146) (cx.u.fact 32 (f := .glo "Unexplained") rfl)⟩ (VI.all_cons ⟨(xo_SelfLine cx).exc, VI.dec_ism (cx.lies 147) (cx.u.fact 32 (f := .glo "Unexplained") rfl)⟩ (VI.all_cons ⟨(xo_InvalidNumber cx).exc, VI.dec_ism (cx.lies 148) (cx.u.fact 32 (f := .glo "Unexplained") rfl)⟩ (VI.all_cons ⟨(xo_InvalidTable cx).exc, VI.dec_ism (cx.lies 149) (cx.u.fact 32 (f := .glo "Unexplained") rfl)⟩ (VI.all_cons ⟨(xo_InvalidFault cx).exc, VI.dec_ism (cx.lies 150) (cx.u.fact 32 (f := .glo "Unexplained") rfl)⟩ (VI.all_cons ⟨(xo_InvalidLateness cx).exc, VI.dec_ism (cx.lies 151) (cx.u.fact 32 (f := .glo "Unexplained") rfl)⟩ (VI.all_cons ⟨(xo_EmptyWindow cx).exc, VI.dec_ism (cx.lies 152) (cx.u.fact 32 (f := .glo "Unexplained") rfl)⟩ (VI.all_cons ⟨(xo_InvalidChain cx).exc, VI.dec_ism (cx.lies 153) (cx.u.fact 32 (f := .glo "Unexplained") rfl)⟩ (VI.all_cons ⟨(xo_Unexplained cx).exc, VI.dec_ism (cx.lies 154) (cx.u.fact 32 (f := .glo "Unexplained") rfl)⟩ (VI.all_cons ⟨(xo_InvalidText cx).exc, VI.dec_ism (cx.lies 155) (cx.u.fact 32 (f := .glo "Unexplained") rfl)⟩ VI.all_nil)))))))))))))
theorem di_InvalidText (cx : VI.SaysX file fa fn us xs ys K) : ∀ c b, VI.decL t_InvalidText c = some b → L2.ExcC K (cl K c) ∧ PySem.W.kitOne K (.ref (cl K c)) (.ref (He.ga K "InvalidText")) = some b := VI.decL_ok (p := fun c b => L2.ExcC K (cl K c) ∧ PySem.W.kitOne K (.ref (cl K c)) (.ref (He.ga K "InvalidText")) = some b) (VI.all_cons ⟨(xo_InvalidName cx).exc, VI.dec_ism (cx.lies 156) (cx.u.fact 33 (f := .glo "InvalidText") rfl)⟩ (VI.all_cons ⟨(xo_UnknownKeeper cx).exc, VI.dec_ism (cx.lies 157) (cx.u.fact 33 (f := .glo "InvalidText") rfl)⟩ (VI.all_cons ⟨(xo_DuplicateEntry cx).exc, VI.dec_ism (cx.lies 158) (cx.u.fact 33 (f := .glo "InvalidText") rfl)⟩ (VI.all_cons ⟨(xo_NetworkFull cx).exc, VI.dec_ism (cx.lies 159) (cx.u.fact 33 (f := .glo "InvalidText") rfl)⟩ (VI.all_cons ⟨(xo_SelfLine cx).exc, VI.dec_ism (cx.lies 160) (cx.u.fact 33 (f := .glo "InvalidText") rfl)⟩ (VI.all_cons ⟨(xo_InvalidNumber cx).exc, VI.dec_ism (cx.lies 161) (cx.u.fact 33 (f := .glo "InvalidText") rfl)⟩ (VI.all_cons ⟨(xo_InvalidTable cx).exc, VI.dec_ism (cx.lies 162) (cx.u.fact 33 (f := .glo "InvalidText") rfl)⟩ (VI.all_cons ⟨(xo_InvalidFault cx).exc, VI.dec_ism (cx.lies 163) (cx.u.fact 33 (f := .glo "InvalidText") rfl)⟩ (VI.all_cons ⟨(xo_InvalidLateness cx).exc, VI.dec_ism (cx.lies 164) (cx.u.fact 33 (f := .glo "InvalidText") rfl)⟩ (VI.all_cons ⟨(xo_EmptyWindow cx).exc, VI.dec_ism (cx.lies 165) (cx.u.fact 33 (f := .glo "InvalidText") rfl)⟩ (VI.all_cons ⟨(xo_InvalidChain cx).exc, VI.dec_ism (cx.lies 166) (cx.u.fact 33 (f := .glo "InvalidText") rfl)⟩ (VI.all_cons ⟨(xo_Unexplained cx).exc, VI.dec_ism (cx.lies 167) (cx.u.fact 33 (f := .glo "InvalidText") rfl)⟩ (VI.all_cons ⟨(xo_InvalidText cx).exc, VI.dec_ism (cx.lies 168) (cx.u.fact 33 (f := .glo "InvalidText") rfl)⟩ VI.all_nil)))))))))))))
theorem di_ValueError (cx : VI.SaysX file fa fn us xs ys K) : ∀ c b, VI.decL t_ValueError c = some b → L2.ExcC K (cl K c) ∧ PySem.W.kitOne K (.ref (cl K c)) (.type "ValueError") = some b := VI.decL_ok (p := fun c b => L2.ExcC K (cl K c) ∧ PySem.W.kitOne K (.ref (cl K c)) (.type "ValueError") = some b) (VI.all_cons ⟨(xo_InvalidName cx).exc, VI.dec_isv (cx.lies 169) (cx.u.fact 34 (f := .free "ValueError") rfl)⟩ (VI.all_cons ⟨(xo_UnknownKeeper cx).exc, VI.dec_isv (cx.lies 170) (cx.u.fact 34 (f := .free "ValueError") rfl)⟩ (VI.all_cons ⟨(xo_DuplicateEntry cx).exc, VI.dec_isv (cx.lies 171) (cx.u.fact 34 (f := .free "ValueError") rfl)⟩ (VI.all_cons ⟨(xo_NetworkFull cx).exc, VI.dec_isv (cx.lies 172) (cx.u.fact 34 (f := .free "ValueError") rfl)⟩ (VI.all_cons ⟨(xo_SelfLine cx).exc, VI.dec_isv (cx.lies 173) (cx.u.fact 34 (f := .free "ValueError") rfl)⟩ (VI.all_cons ⟨(xo_InvalidNumber cx).exc, VI.dec_isv (cx.lies 174) (cx.u.fact 34 (f := .free "ValueError") rfl)⟩ (VI.all_cons ⟨(xo_InvalidTable cx).exc, VI.dec_isv (cx.lies 175) (cx.u.fact 34 (f := .free "ValueError") rfl)⟩ (VI.all_cons ⟨(xo_InvalidFault cx).exc, VI.dec_isv (cx.lies 176) (cx.u.fact 34 (f := .free "ValueError") rfl)⟩ (VI.all_cons ⟨(xo_InvalidLateness cx).exc, VI.dec_isv (cx.lies 177) (cx.u.fact 34 (f := .free "ValueError") rfl)⟩ (VI.all_cons ⟨(xo_EmptyWindow cx).exc, VI.dec_isv (cx.lies 178) (cx.u.fact 34 (f := .free "ValueError") rfl)⟩ (VI.all_cons ⟨(xo_InvalidChain cx).exc, VI.dec_isv (cx.lies 179) (cx.u.fact 34 (f := .free "ValueError") rfl)⟩ (VI.all_cons ⟨(xo_Unexplained cx).exc, VI.dec_isv (cx.lies 180) (cx.u.fact 34 (f := .free "ValueError") rfl)⟩ (VI.all_cons ⟨(xo_InvalidText cx).exc, VI.dec_isv (cx.lies 181) (cx.u.fact 34 (f := .free "ValueError") rfl)⟩ VI.all_nil)))))))))))))
theorem di_FogError (cx : VI.SaysX file fa fn us xs ys K) : ∀ c b, VI.decL t_FogError c = some b → L2.ExcC K (cl K c) ∧ PySem.W.kitOne K (.ref (cl K c)) (.ref (He.ga K "FogError")) = some b := VI.decL_ok (p := fun c b => L2.ExcC K (cl K c) ∧ PySem.W.kitOne K (.ref (cl K c)) (.ref (He.ga K "FogError")) = some b) (VI.all_cons ⟨(xo_InvalidName cx).exc, VI.dec_ism (cx.lies 182) (cx.u.fact 20 (f := .glo "FogError") rfl)⟩ (VI.all_cons ⟨(xo_UnknownKeeper cx).exc, VI.dec_ism (cx.lies 183) (cx.u.fact 20 (f := .glo "FogError") rfl)⟩ (VI.all_cons ⟨(xo_DuplicateEntry cx).exc, VI.dec_ism (cx.lies 184) (cx.u.fact 20 (f := .glo "FogError") rfl)⟩ (VI.all_cons ⟨(xo_NetworkFull cx).exc, VI.dec_ism (cx.lies 185) (cx.u.fact 20 (f := .glo "FogError") rfl)⟩ (VI.all_cons ⟨(xo_SelfLine cx).exc, VI.dec_ism (cx.lies 186) (cx.u.fact 20 (f := .glo "FogError") rfl)⟩ (VI.all_cons ⟨(xo_InvalidNumber cx).exc, VI.dec_ism (cx.lies 187) (cx.u.fact 20 (f := .glo "FogError") rfl)⟩ (VI.all_cons ⟨(xo_InvalidTable cx).exc, VI.dec_ism (cx.lies 188) (cx.u.fact 20 (f := .glo "FogError") rfl)⟩ (VI.all_cons ⟨(xo_InvalidFault cx).exc, VI.dec_ism (cx.lies 189) (cx.u.fact 20 (f := .glo "FogError") rfl)⟩ (VI.all_cons ⟨(xo_InvalidLateness cx).exc, VI.dec_ism (cx.lies 190) (cx.u.fact 20 (f := .glo "FogError") rfl)⟩ (VI.all_cons ⟨(xo_EmptyWindow cx).exc, VI.dec_ism (cx.lies 191) (cx.u.fact 20 (f := .glo "FogError") rfl)⟩ (VI.all_cons ⟨(xo_InvalidChain cx).exc, VI.dec_ism (cx.lies 192) (cx.u.fact 20 (f := .glo "FogError") rfl)⟩ (VI.all_cons ⟨(xo_Unexplained cx).exc, VI.dec_ism (cx.lies 193) (cx.u.fact 20 (f := .glo "FogError") rfl)⟩ (VI.all_cons ⟨(xo_InvalidText cx).exc, VI.dec_ism (cx.lies 194) (cx.u.fact 20 (f := .glo "FogError") rfl)⟩ VI.all_nil)))))))))))))
theorem xf_number (cx : VI.SaysX file fa fn us xs ys K) : ∀ c, VI.inL [8] c = true → L2.XfC K (cl K c) ∧ PySem.W.findIn K (.ref (cl K c)) "number" = some none := VI.inL_ok (p := fun c => L2.XfC K (cl K c) ∧ PySem.W.findIn K (.ref (cl K c)) "number" = some none) (VI.all_cons ⟨(xo_InvalidNumber cx).xf, (xo_InvalidNumber cx).fs "number" (by simp [X_InvalidNumber])⟩ VI.all_nil)
theorem xf_high (cx : VI.SaysX file fa fn us xs ys K) : ∀ c, VI.inL [12] c = true → L2.XfC K (cl K c) ∧ PySem.W.findIn K (.ref (cl K c)) "high" = some none := VI.inL_ok (p := fun c => L2.XfC K (cl K c) ∧ PySem.W.findIn K (.ref (cl K c)) "high" = some none) (VI.all_cons ⟨(xo_EmptyWindow cx).xf, (xo_EmptyWindow cx).fs "high" (by simp [X_EmptyWindow])⟩ VI.all_nil)
theorem xf_low (cx : VI.SaysX file fa fn us xs ys K) : ∀ c, VI.inL [12] c = true → L2.XfC K (cl K c) ∧ PySem.W.findIn K (.ref (cl K c)) "low" = some none := VI.inL_ok (p := fun c => L2.XfC K (cl K c) ∧ PySem.W.findIn K (.ref (cl K c)) "low" = some none) (VI.all_cons ⟨(xo_EmptyWindow cx).xf, (xo_EmptyWindow cx).fs "low" (by simp [X_EmptyWindow])⟩ VI.all_nil)
theorem xf_name (cx : VI.SaysX file fa fn us xs ys K) : ∀ c, VI.inL [3, 4, 7, 9, 12] c = true → L2.XfC K (cl K c) ∧ PySem.W.findIn K (.ref (cl K c)) "name" = some none := VI.inL_ok (p := fun c => L2.XfC K (cl K c) ∧ PySem.W.findIn K (.ref (cl K c)) "name" = some none) (VI.all_cons ⟨(xo_InvalidName cx).xf, (xo_InvalidName cx).fs "name" (by simp [X_InvalidName])⟩ (VI.all_cons ⟨(xo_UnknownKeeper cx).xf, (xo_UnknownKeeper cx).fs "name" (by simp [X_UnknownKeeper])⟩ (VI.all_cons ⟨(xo_SelfLine cx).xf, (xo_SelfLine cx).fs "name" (by simp [X_SelfLine])⟩ (VI.all_cons ⟨(xo_InvalidTable cx).xf, (xo_InvalidTable cx).fs "name" (by simp [X_InvalidTable])⟩ (VI.all_cons ⟨(xo_EmptyWindow cx).xf, (xo_EmptyWindow cx).fs "name" (by simp [X_EmptyWindow])⟩ VI.all_nil)))))
theorem xf_entry (cx : VI.SaysX file fa fn us xs ys K) : ∀ c, VI.inL [5] c = true → L2.XfC K (cl K c) ∧ PySem.W.findIn K (.ref (cl K c)) "entry" = some none := VI.inL_ok (p := fun c => L2.XfC K (cl K c) ∧ PySem.W.findIn K (.ref (cl K c)) "entry" = some none) (VI.all_cons ⟨(xo_DuplicateEntry cx).xf, (xo_DuplicateEntry cx).fs "entry" (by simp [X_DuplicateEntry])⟩ VI.all_nil)
theorem xf_pair (cx : VI.SaysX file fa fn us xs ys K) : ∀ c, VI.inL [11] c = true → L2.XfC K (cl K c) ∧ PySem.W.findIn K (.ref (cl K c)) "pair" = some none := VI.inL_ok (p := fun c => L2.XfC K (cl K c) ∧ PySem.W.findIn K (.ref (cl K c)) "pair" = some none) (VI.all_cons ⟨(xo_InvalidLateness cx).xf, (xo_InvalidLateness cx).fs "pair" (by simp [X_InvalidLateness])⟩ VI.all_nil)
theorem xf_fault (cx : VI.SaysX file fa fn us xs ys K) : ∀ c, VI.inL [10] c = true → L2.XfC K (cl K c) ∧ PySem.W.findIn K (.ref (cl K c)) "fault" = some none := VI.inL_ok (p := fun c => L2.XfC K (cl K c) ∧ PySem.W.findIn K (.ref (cl K c)) "fault" = some none) (VI.all_cons ⟨(xo_InvalidFault cx).xf, (xo_InvalidFault cx).fs "fault" (by simp [X_InvalidFault])⟩ VI.all_nil)
theorem xf_chains (cx : VI.SaysX file fa fn us xs ys K) : ∀ c, VI.inL [14] c = true → L2.XfC K (cl K c) ∧ PySem.W.findIn K (.ref (cl K c)) "chains" = some none := VI.inL_ok (p := fun c => L2.XfC K (cl K c) ∧ PySem.W.findIn K (.ref (cl K c)) "chains" = some none) (VI.all_cons ⟨(xo_Unexplained cx).xf, (xo_Unexplained cx).fs "chains" (by simp [X_Unexplained])⟩ VI.all_nil)
theorem xf_limit (cx : VI.SaysX file fa fn us xs ys K) : ∀ c, VI.inL [6] c = true → L2.XfC K (cl K c) ∧ PySem.W.findIn K (.ref (cl K c)) "limit" = some none := VI.inL_ok (p := fun c => L2.XfC K (cl K c) ∧ PySem.W.findIn K (.ref (cl K c)) "limit" = some none) (VI.all_cons ⟨(xo_NetworkFull cx).xf, (xo_NetworkFull cx).fs "limit" (by simp [X_NetworkFull])⟩ VI.all_nil)
theorem xf_line (cx : VI.SaysX file fa fn us xs ys K) : ∀ c, VI.inL [15] c = true → L2.XfC K (cl K c) ∧ PySem.W.findIn K (.ref (cl K c)) "line" = some none := VI.inL_ok (p := fun c => L2.XfC K (cl K c) ∧ PySem.W.findIn K (.ref (cl K c)) "line" = some none) (VI.all_cons ⟨(xo_InvalidText cx).xf, (xo_InvalidText cx).fs "line" (by simp [X_InvalidText])⟩ VI.all_nil)
theorem xf_row (cx : VI.SaysX file fa fn us xs ys K) : ∀ c, VI.inL [13] c = true → L2.XfC K (cl K c) ∧ PySem.W.findIn K (.ref (cl K c)) "row" = some none := VI.inL_ok (p := fun c => L2.XfC K (cl K c) ∧ PySem.W.findIn K (.ref (cl K c)) "row" = some none) (VI.all_cons ⟨(xo_InvalidChain cx).xf, (xo_InvalidChain cx).fs "row" (by simp [X_InvalidChain])⟩ VI.all_nil)
theorem sc_d_law_row : FnScope N_d_law_row P_d_law_row (defScope s_d_law_row) := ⟨rfl, rfl, rfl, by decide +kernel, rfl, by decide +kernel, by decide +kernel⟩
theorem ok_d_law_row (KX : K.In h) (G : h.Ns mainGlobals mg) (cx : VI.SaysX file fa fn us xs ys K) (pg : VI.PgOk P file) : ∃ fd, FunD K x_d_law_row.name x_d_law_row.qual x_d_law_row.params x_d_law_row.body x_d_law_row.scope (x_d_law_row.dvs K) (x_d_law_row.kws K) (He.fAd K x_d_law_row.at_) fd ∧
    FnOk P w K mg base CX0 1 (He.fAd K x_d_law_row.at_) fd P_d_law_row (SpF K (cl K) [] 2 f_d_law_row) := by
  have c := cx.u
  obtain ⟨fd, F⟩ := c.def_ 0 (d := x_d_law_row) rfl
  refine ⟨fd, F, fn_ok F sc_d_law_row fun cdv A outer s H E hr => ?_⟩
  have hu : (cxOf CX0 P w K mg base N_d_law_row x_d_law_row.qual x_d_law_row.scope (He.fAd K x_d_law_row.at_) cdv A outer s H E).nox.A.units + 64 < cLine := by have := hr.un; show (A.deeper _).units + 64 < cLine; omega
  have hu5 : (cxOf CX0 P w K mg base N_d_law_row x_d_law_row.qual x_d_law_row.scope (He.fAd K x_d_law_row.at_) cdv A outer s H E).nox.A.units + 65 < cLine := by have := hr.un; show (A.deeper _).units + 65 < cLine; omega
  exact (vss_cons (vs_asg sc_d_law_row.nd rfl (by first | exact .inl rfl | exact .inr rfl) (by decide) (ev_lst ed_nil))
    (vss_cons (vs_asg sc_d_law_row.nd rfl (by first | exact .inl rfl | exact .inr rfl) (by decide) (ev_callB call_abs absD_ok (by rfl) (He.free_ok KX G (c.fact 0 (f := .free "abs") rfl)) (by decide +kernel) (ea_cons (ev_var (pv 0)) ea_nil)))
    (vss_cons (vs_asg sc_d_law_row.nd rfl (by first | exact .inl rfl | exact .inr rfl) (by decide) (ev_op op_mod modD_ok (EvD.v (ev_callT call_int1 intD_ok (by rfl) (He.free_ok KX G (c.fact 1 (f := .free "int") rfl)) (by decide +kernel) (ea_cons (EvD.v (ev_op op_addA addD_ok (EvD.v (ev_op op_mulA mulD_ok (ev_var (pv 0)) (EvD.v ev_int))) (EvD.v ev_int))) ea_nil))) (EvD.v ev_int)))
    (vss_cons (vs_kill [0, 1, 4, 3] (vs_for PassesOwn.never rfl (vi_range1 (by rfl) (He.free_ok KX G (c.fact 2 (f := .free "range") rfl)) (ea_cons (ev_var (pv 1)) ea_nil)) (vg_name sc_d_law_row.nd rfl (by first | exact .inl rfl | exact .inr rfl) (by decide))
    (vss_kill [5] (vss_one (vs_if (ev_test op_lt ltD_ok (EvD.v (ev_callB call_abs absD_ok (by rfl) (He.free_ok KX G (c.fact 0 (f := .free "abs") rfl)) (by decide +kernel) (ea_cons (ev_var (pv 0)) ea_nil))) (EvD.v (ev_op op_pow powD_ok (EvD.v ev_int) (EvD.v ev_int))) (nomark _))
    (vss_cons (vs_asg sc_d_law_row.nd rfl (by first | exact .inl rfl | exact .inr rfl) (by decide) (ev_op op_mod modD_ok (EvD.v (ev_callT call_int1 intD_ok (by rfl) (He.free_ok KX G (c.fact 1 (f := .free "int") rfl)) (by decide +kernel) (ea_cons (EvD.v (ev_op op_addA addD_ok (EvD.v (ev_op op_mulA mulD_ok (ev_var (pv 4)) (EvD.v ev_int))) (EvD.v ev_int))) ea_nil))) (EvD.v ev_int)))
    (vss_one (vs_eff (ve_append (ep_name (pv 2)) (ev_op op_mod modD_ok (EvD.v (ev_op op_fdiv fdivD_ok (ev_var (pv 4)) (EvD.v ev_int))) (EvD.v ev_int))))))
    (vss_cons (vs_eff (ve_append (ep_name (pv 2)) (ev_op op_mod modD_ok (EvD.v (ev_callT call_int1 intD_ok (by rfl) (He.free_ok KX G (c.fact 1 (f := .free "int") rfl)) (by decide +kernel) (ea_cons (ev_var (pv 3)) ea_nil))) (EvD.v ev_int))))
    (vss_one (vs_asg sc_d_law_row.nd rfl (by first | exact .inl rfl | exact .inr rfl) (by decide) (ev_op op_fdiv fdivD_ok (ev_var (pv 3)) (EvD.v ev_int))))))))))
    (vss_one (vs_retV (pv 2) (by decide)))))))
theorem sc_d_law_cell : FnScope N_d_law_cell P_d_law_cell (defScope s_d_law_cell) := ⟨rfl, rfl, rfl, by decide +kernel, rfl, by decide +kernel, by decide +kernel⟩
theorem ok_d_law_cell (KX : K.In h) (G : h.Ns mainGlobals mg) (cx : VI.SaysX file fa fn us xs ys K) (pg : VI.PgOk P file) : ∃ fd, FunD K x_d_law_cell.name x_d_law_cell.qual x_d_law_cell.params x_d_law_cell.body x_d_law_cell.scope (x_d_law_cell.dvs K) (x_d_law_cell.kws K) (He.fAd K x_d_law_cell.at_) fd ∧
    FnOk P w K mg base CX0 1 (He.fAd K x_d_law_cell.at_) fd P_d_law_cell (SpF K (cl K) [] 2 f_d_law_cell) := by
  have c := cx.u
  obtain ⟨fd, F⟩ := c.def_ 1 (d := x_d_law_cell) rfl
  refine ⟨fd, F, fn_ok F sc_d_law_cell fun cdv A outer s H E hr => ?_⟩
  have hu : (cxOf CX0 P w K mg base N_d_law_cell x_d_law_cell.qual x_d_law_cell.scope (He.fAd K x_d_law_cell.at_) cdv A outer s H E).nox.A.units + 64 < cLine := by have := hr.un; show (A.deeper _).units + 64 < cLine; omega
  have hu5 : (cxOf CX0 P w K mg base N_d_law_cell x_d_law_cell.qual x_d_law_cell.scope (He.fAd K x_d_law_cell.at_) cdv A outer s H E).nox.A.units + 65 < cLine := by have := hr.un; show (A.deeper _).units + 65 < cLine; omega
  exact (vss_cons (vs_kill [1, 0] (vs_if (ev_test op_lt ltD_ok (ev_var (pv 1)) (EvD.v (ev_callB call_lenA lenD_ok (by rfl) (He.free_ok KX G (c.fact 3 (f := .free "len") rfl)) (by decide +kernel) (ea_cons (ev_var (pv 0)) ea_nil))) (nomark _))
    (vss_one (vs_ret (EvV.d (ev_sub hu (ev_var (pv 0)) (ev_var (pv 1))))))
    vss_nil))
    (vss_one (vs_ret ev_int)))
theorem sc_d_law_dawn : FnScope N_d_law_dawn P_d_law_dawn (defScope s_d_law_dawn) := ⟨rfl, rfl, rfl, by decide +kernel, rfl, by decide +kernel, by decide +kernel⟩
theorem ok_d_law_dawn (KX : K.In h) (G : h.Ns mainGlobals mg) (cx : VI.SaysX file fa fn us xs ys K) (pg : VI.PgOk P file) : ∃ fd, FunD K x_d_law_dawn.name x_d_law_dawn.qual x_d_law_dawn.params x_d_law_dawn.body x_d_law_dawn.scope (x_d_law_dawn.dvs K) (x_d_law_dawn.kws K) (He.fAd K x_d_law_dawn.at_) fd ∧
    FnOk P w K mg base CX0 1 (He.fAd K x_d_law_dawn.at_) fd P_d_law_dawn (SpF K (cl K) [] 2 f_d_law_dawn) := by
  have c := cx.u
  obtain ⟨fd, F⟩ := c.def_ 2 (d := x_d_law_dawn) rfl
  refine ⟨fd, F, fn_ok F sc_d_law_dawn fun cdv A outer s H E hr => ?_⟩
  have hu : (cxOf CX0 P w K mg base N_d_law_dawn x_d_law_dawn.qual x_d_law_dawn.scope (He.fAd K x_d_law_dawn.at_) cdv A outer s H E).nox.A.units + 64 < cLine := by have := hr.un; show (A.deeper _).units + 64 < cLine; omega
  have hu5 : (cxOf CX0 P w K mg base N_d_law_dawn x_d_law_dawn.qual x_d_law_dawn.scope (He.fAd K x_d_law_dawn.at_) cdv A outer s H E).nox.A.units + 65 < cLine := by have := hr.un; show (A.deeper _).units + 65 < cLine; omega
  exact (vss_cons (vs_asg sc_d_law_dawn.nd rfl (by first | exact .inl rfl | exact .inr rfl) (by decide) (ev_op op_mod modD_ok (EvD.v (ev_callT call_int1 intD_ok (by rfl) (He.free_ok KX G (c.fact 1 (f := .free "int") rfl)) (by decide +kernel) (ea_cons (ev_sub hu (ev_var (pv 1)) (EvD.v ev_int)) ea_nil))) (EvD.v ev_int)))
    (vss_cons (vs_if (ev_test op_lt ltD_ok (ev_var (pv 2)) (EvD.v ev_int) (nomark _))
    (vss_one (vs_ret (ev_op op_sub subD_ok (EvD.v (ev_op op_mod modD_ok (EvD.v (ev_callT call_int1 intD_ok (by rfl) (He.free_ok KX G (c.fact 1 (f := .free "int") rfl)) (by decide +kernel) (ea_cons (ev_var (pv 0)) ea_nil))) (EvD.v ev_int))) (EvD.v ev_int))))
    vss_nil)
    (vss_cons (vs_kill [2] (vs_if (ev_test (op_eqA hu) eqD_ok (ev_var (pv 2)) (EvD.v ev_int) (nomark _))
    (vss_one (vs_ret (EvV.d (ev_sub hu (EvD.v (ev_lst (ed_cons (ev_neg (EvD.v ev_int)) (ed_cons ev_int (ed_cons ev_int (ed_cons ev_int (ed_cons ev_int ed_nil))))))) (EvD.v (ev_op op_mod modD_ok (EvD.v (ev_callT call_int1 intD_ok (by rfl) (He.free_ok KX G (c.fact 1 (f := .free "int") rfl)) (by decide +kernel) (ea_cons (ev_sub hu (ev_var (pv 1)) (EvD.v ev_int)) ea_nil))) (EvD.v ev_int)))))))
    vss_nil))
    (vss_cons (vs_asg sc_d_law_dawn.nd rfl (by first | exact .inl rfl | exact .inr rfl) (by decide) (ev_op op_mod modD_ok (EvD.v (ev_callT call_int1 intD_ok (by rfl) (He.free_ok KX G (c.fact 1 (f := .free "int") rfl)) (by decide +kernel) (ea_cons (ev_var (pv 0)) ea_nil))) (EvD.v (ev_op op_pow powD_ok (EvD.v ev_int) (EvD.v ev_int)))))
    (vss_cons (vs_kill [0] (vs_if (ev_test (op_eqA hu) eqD_ok (EvD.v (ev_op op_mod modD_ok (EvD.v (ev_callT call_int1 intD_ok (by rfl) (He.free_ok KX G (c.fact 1 (f := .free "int") rfl)) (by decide +kernel) (ea_cons (ev_sub hu (ev_var (pv 1)) (EvD.v ev_int)) ea_nil))) (EvD.v ev_int))) (EvD.v ev_int) (nomark _))
    (vss_one (vs_asg sc_d_law_dawn.nd rfl (by first | exact .inl rfl | exact .inr rfl) (by decide) (ev_op op_mod modD_ok (EvD.v (ev_callT call_int1 intD_ok (by rfl) (He.free_ok KX G (c.fact 1 (f := .free "int") rfl)) (by decide +kernel) (ea_cons (EvD.v (ev_op op_mulA mulD_ok (ev_var (pv 0)) (EvD.v ev_int))) ea_nil))) (EvD.v (ev_op op_pow powD_ok (EvD.v ev_int) (EvD.v ev_int))))))
    vss_nil))
    (vss_cons (vs_kill [1] (vs_if (ev_test (op_eqA hu) eqD_ok (EvD.v (ev_op op_mod modD_ok (EvD.v (ev_callT call_int1 intD_ok (by rfl) (He.free_ok KX G (c.fact 1 (f := .free "int") rfl)) (by decide +kernel) (ea_cons (ev_sub hu (ev_var (pv 1)) (EvD.v ev_int)) ea_nil))) (EvD.v ev_int))) (EvD.v ev_int) (nomark _))
    (vss_one (vs_ret (ev_op op_sub subD_ok (EvD.v ev_int) (ev_var (pv 3)))))
    vss_nil))
    (vss_one (vs_ret (ev_op op_addA addD_ok (EvD.v ev_int) (ev_var (pv 3)))))))))))
theorem sc_m_Network_ddinit_x : FnScope N_m_Network_ddinit_x P_m_Network_ddinit_x (defScope s_m_Network_ddinit_x) := ⟨rfl, rfl, rfl, by decide +kernel, rfl, by decide +kernel, by decide +kernel⟩
theorem ok_m_Network_ddinit_x (KX : K.In h) (G : h.Ns mainGlobals mg) (cx : VI.SaysX file fa fn us xs ys K) (pg : VI.PgOk P file) : ∃ fd, FunD K x_m_Network_ddinit_x.name x_m_Network_ddinit_x.qual x_m_Network_ddinit_x.params x_m_Network_ddinit_x.body x_m_Network_ddinit_x.scope (x_m_Network_ddinit_x.dvs K) (x_m_Network_ddinit_x.kws K) (He.fAd K x_m_Network_ddinit_x.at_) fd ∧
    FnOk P w K mg base (L2.CX P w) 3 (He.fAd K x_m_Network_ddinit_x.at_) fd P_m_Network_ddinit_x (SpX K (cl K) [0] 2 f_m_Network_ddinit_x) := by
  have c := cx.u
  obtain ⟨fd, F⟩ := c.def_ 3 (d := x_m_Network_ddinit_x) rfl
  refine ⟨fd, F, fn_okX F sc_m_Network_ddinit_x fun cdv A outer s H E hr tk hpo => ?_⟩
  have hu : (cxOf (L2.CX P w) P w K mg base N_m_Network_ddinit_x x_m_Network_ddinit_x.qual x_m_Network_ddinit_x.scope (He.fAd K x_m_Network_ddinit_x.at_) cdv A outer s H E).A.units + 64 < cLine := by have := hr.un; show (A.deeper _).units + 64 < cLine; omega
  have hu5 : (cxOf (L2.CX P w) P w K mg base N_m_Network_ddinit_x x_m_Network_ddinit_x.qual x_m_Network_ddinit_x.scope (He.fAd K x_m_Network_ddinit_x.at_) cdv A outer s H E).A.units + 65 < cLine := by have := hr.un; show (A.deeper _).units + 65 < cLine; omega
  exact (vss_cons (vs_if (et_not (et_chain op_le leD_ok op_le leD_ok (EvD.v ev_int) (ev_var (pv 1)) (EvD.v (ev_gint (by rfl) (He.int_ok KX G (c.fact 9 (f := .int "MOST_DAWN" 100) rfl))))))
    (vss_one (vs_raise rfl tk (hr.mono (by decide)) (xk_InvalidNumber KX G cx pg) (by rfl) (He.glo_ok KX G (c.fact 10 (f := .glo "InvalidNumber") rfl)) (ea_cons (ev_var (pv 1)) ea_nil)))
    vss_nil)
    (vss_cons (vs_kill [1] (vs_fld (cl := ⟨cl K, none, fun c d _ H2 => E c d H2⟩) (c := 0) (He.cls_ok (c.fact 11 (f := .cls "Network") rfl)) (He.noat_ok (c.fact 12 (f := .noat "Network" "dawn") rfl)) (ep_name (pv 0)) (EvV.d (ev_var (pv 1)))))
    (vss_cons (vs_fld (cl := ⟨cl K, none, fun c d _ H2 => E c d H2⟩) (c := 0) (He.cls_ok (c.fact 11 (f := .cls "Network") rfl)) (He.noat_ok (c.fact 13 (f := .noat "Network" "names") rfl)) (ep_name (pv 0)) (ev_lst ed_nil))
    (vss_cons (vs_fld (cl := ⟨cl K, none, fun c d _ H2 => E c d H2⟩) (c := 0) (He.cls_ok (c.fact 11 (f := .cls "Network") rfl)) (He.noat_ok (c.fact 14 (f := .noat "Network" "watches") rfl)) (ep_name (pv 0)) ev_dnewK)
    (vss_cons (vs_fld (cl := ⟨cl K, none, fun c d _ H2 => E c d H2⟩) (c := 0) (He.cls_ok (c.fact 11 (f := .cls "Network") rfl)) (He.noat_ok (c.fact 15 (f := .noat "Network" "needs") rfl)) (ep_name (pv 0)) ev_dnewK)
    (vss_cons (vs_fld (cl := ⟨cl K, none, fun c d _ H2 => E c d H2⟩) (c := 0) (He.cls_ok (c.fact 11 (f := .cls "Network") rfl)) (He.noat_ok (c.fact 16 (f := .noat "Network" "spans") rfl)) (ep_name (pv 0)) ev_dnewT)
    (vss_one (vs_fld (cl := ⟨cl K, none, fun c d _ H2 => E c d H2⟩) (c := 0) (He.cls_ok (c.fact 11 (f := .cls "Network") rfl)) (He.noat_ok (c.fact 17 (f := .noat "Network" "into") rfl)) (ep_name (pv 0)) ev_dnewK))))))))
theorem sc_d_law_class_c : FnScope N_d_law_class_c P_d_law_class_c (defScope s_d_law_class_c) := ⟨rfl, rfl, rfl, by decide +kernel, rfl, by decide +kernel, by decide +kernel⟩
theorem ok_d_law_class_c (KX : K.In h) (G : h.Ns mainGlobals mg) (cx : VI.SaysX file fa fn us xs ys K) (pg : VI.PgOk P file) : ∃ fd, FunD K x_d_law_class_c.name x_d_law_class_c.qual x_d_law_class_c.params x_d_law_class_c.body x_d_law_class_c.scope (x_d_law_class_c.dvs K) (x_d_law_class_c.kws K) (He.fAd K x_d_law_class_c.at_) fd ∧
    FnE P w K mg base 1 (He.fAd K x_d_law_class_c.at_) fd P_d_law_class_c (SpE K (cl K) f_d_law_class_c) := by
  have c := cx.u
  obtain ⟨fd, F⟩ := c.def_ 4 (d := x_d_law_class_c) rfl
  refine ⟨fd, F, fn_okC F sc_d_law_class_c fun cdv A outer s H E a oe d ci fs hr hz hd => ?_⟩
  have hu : (L2H.cxH CX0 P w K mg base N_d_law_class_c x_d_law_class_c.qual x_d_law_class_c.scope (He.fAd K x_d_law_class_c.at_) cdv A outer s H E (a, oe)).A.units + 64 < cLine := by have := hr.un; show (A.deeper _).units + 64 < cLine; omega
  have hu5 : (L2H.cxH CX0 P w K mg base N_d_law_class_c x_d_law_class_c.qual x_d_law_class_c.scope (He.fAd K x_d_law_class_c.at_) cdv A outer s H E (a, oe)).A.units + 65 < cLine := by have := hr.un; show (A.deeper _).units + 65 < cLine; omega
  exact (vss_cons (vs_asg sc_d_law_class_c.nd rfl (by first | exact .inl rfl | exact .inr rfl) (by decide) (ev_lst ed_nil))
    (vss_cons (vs_if (ev_truth (ev_isP (decL t_InvalidName) (di_InvalidName cx) List.mem_cons_self hz hd rfl (.inl (by rfl)) (by rfl) (He.free_ok KX G (c.fact 22 (f := .free "isinstance") rfl)) (by decide +kernel) (pe_glob (v := V.ref (He.ga K "InvalidName")) (by rfl) (He.glo_ok KX G (c.fact 21 (f := .glo "InvalidName") rfl)) rfl) (fun _ h => h)) (fun _ => rfl))
    (vss_one (vs_eff (ve_append (ep_name (pv 1)) ev_str)))
    vss_nil)
    (vss_cons (vs_if (ev_truth (ev_isP (decL t_UnknownKeeper) (di_UnknownKeeper cx) List.mem_cons_self hz hd rfl (.inl (by rfl)) (by rfl) (He.free_ok KX G (c.fact 22 (f := .free "isinstance") rfl)) (by decide +kernel) (pe_glob (v := V.ref (He.ga K "UnknownKeeper")) (by rfl) (He.glo_ok KX G (c.fact 23 (f := .glo "UnknownKeeper") rfl)) rfl) (fun _ h => h)) (fun _ => rfl))
    (vss_one (vs_eff (ve_append (ep_name (pv 1)) ev_str)))
    vss_nil)
    (vss_cons (vs_if (ev_truth (ev_isP (decL t_DuplicateEntry) (di_DuplicateEntry cx) List.mem_cons_self hz hd rfl (.inl (by rfl)) (by rfl) (He.free_ok KX G (c.fact 22 (f := .free "isinstance") rfl)) (by decide +kernel) (pe_glob (v := V.ref (He.ga K "DuplicateEntry")) (by rfl) (He.glo_ok KX G (c.fact 24 (f := .glo "DuplicateEntry") rfl)) rfl) (fun _ h => h)) (fun _ => rfl))
    (vss_one (vs_eff (ve_append (ep_name (pv 1)) ev_str)))
    vss_nil)
    (vss_cons (vs_if (ev_truth (ev_isP (decL t_NetworkFull) (di_NetworkFull cx) List.mem_cons_self hz hd rfl (.inl (by rfl)) (by rfl) (He.free_ok KX G (c.fact 22 (f := .free "isinstance") rfl)) (by decide +kernel) (pe_glob (v := V.ref (He.ga K "NetworkFull")) (by rfl) (He.glo_ok KX G (c.fact 25 (f := .glo "NetworkFull") rfl)) rfl) (fun _ h => h)) (fun _ => rfl))
    (vss_one (vs_eff (ve_append (ep_name (pv 1)) ev_str)))
    vss_nil)
    (vss_cons (vs_if (ev_truth (ev_isP (decL t_SelfLine) (di_SelfLine cx) List.mem_cons_self hz hd rfl (.inl (by rfl)) (by rfl) (He.free_ok KX G (c.fact 22 (f := .free "isinstance") rfl)) (by decide +kernel) (pe_glob (v := V.ref (He.ga K "SelfLine")) (by rfl) (He.glo_ok KX G (c.fact 26 (f := .glo "SelfLine") rfl)) rfl) (fun _ h => h)) (fun _ => rfl))
    (vss_one (vs_eff (ve_append (ep_name (pv 1)) ev_str)))
    vss_nil)
    (vss_cons (vs_if (ev_truth (ev_isP (decL t_InvalidNumber) (di_InvalidNumber cx) List.mem_cons_self hz hd rfl (.inl (by rfl)) (by rfl) (He.free_ok KX G (c.fact 22 (f := .free "isinstance") rfl)) (by decide +kernel) (pe_glob (v := V.ref (He.ga K "InvalidNumber")) (by rfl) (He.glo_ok KX G (c.fact 10 (f := .glo "InvalidNumber") rfl)) rfl) (fun _ h => h)) (fun _ => rfl))
    (vss_one (vs_eff (ve_append (ep_name (pv 1)) ev_str)))
    vss_nil)
    (vss_cons (vs_if (ev_truth (ev_isP (decL t_InvalidTable) (di_InvalidTable cx) List.mem_cons_self hz hd rfl (.inl (by rfl)) (by rfl) (He.free_ok KX G (c.fact 22 (f := .free "isinstance") rfl)) (by decide +kernel) (pe_glob (v := V.ref (He.ga K "InvalidTable")) (by rfl) (He.glo_ok KX G (c.fact 27 (f := .glo "InvalidTable") rfl)) rfl) (fun _ h => h)) (fun _ => rfl))
    (vss_one (vs_eff (ve_append (ep_name (pv 1)) ev_str)))
    vss_nil)
    (vss_cons (vs_if (ev_truth (ev_isP (decL t_InvalidFault) (di_InvalidFault cx) List.mem_cons_self hz hd rfl (.inl (by rfl)) (by rfl) (He.free_ok KX G (c.fact 22 (f := .free "isinstance") rfl)) (by decide +kernel) (pe_glob (v := V.ref (He.ga K "InvalidFault")) (by rfl) (He.glo_ok KX G (c.fact 28 (f := .glo "InvalidFault") rfl)) rfl) (fun _ h => h)) (fun _ => rfl))
    (vss_one (vs_eff (ve_append (ep_name (pv 1)) ev_str)))
    vss_nil)
    (vss_cons (vs_if (ev_truth (ev_isP (decL t_InvalidLateness) (di_InvalidLateness cx) List.mem_cons_self hz hd rfl (.inl (by rfl)) (by rfl) (He.free_ok KX G (c.fact 22 (f := .free "isinstance") rfl)) (by decide +kernel) (pe_glob (v := V.ref (He.ga K "InvalidLateness")) (by rfl) (He.glo_ok KX G (c.fact 29 (f := .glo "InvalidLateness") rfl)) rfl) (fun _ h => h)) (fun _ => rfl))
    (vss_one (vs_eff (ve_append (ep_name (pv 1)) ev_str)))
    vss_nil)
    (vss_cons (vs_if (ev_truth (ev_isP (decL t_EmptyWindow) (di_EmptyWindow cx) List.mem_cons_self hz hd rfl (.inl (by rfl)) (by rfl) (He.free_ok KX G (c.fact 22 (f := .free "isinstance") rfl)) (by decide +kernel) (pe_glob (v := V.ref (He.ga K "EmptyWindow")) (by rfl) (He.glo_ok KX G (c.fact 30 (f := .glo "EmptyWindow") rfl)) rfl) (fun _ h => h)) (fun _ => rfl))
    (vss_one (vs_eff (ve_append (ep_name (pv 1)) ev_str)))
    vss_nil)
    (vss_cons (vs_if (ev_truth (ev_isP (decL t_InvalidChain) (di_InvalidChain cx) List.mem_cons_self hz hd rfl (.inl (by rfl)) (by rfl) (He.free_ok KX G (c.fact 22 (f := .free "isinstance") rfl)) (by decide +kernel) (pe_glob (v := V.ref (He.ga K "InvalidChain")) (by rfl) (He.glo_ok KX G (c.fact 31 (f := .glo "InvalidChain") rfl)) rfl) (fun _ h => h)) (fun _ => rfl))
    (vss_one (vs_eff (ve_append (ep_name (pv 1)) ev_str)))
    vss_nil)
    (vss_cons (vs_if (ev_truth (ev_isP (decL t_Unexplained) (di_Unexplained cx) List.mem_cons_self hz hd rfl (.inl (by rfl)) (by rfl) (He.free_ok KX G (c.fact 22 (f := .free "isinstance") rfl)) (by decide +kernel) (pe_glob (v := V.ref (He.ga K "Unexplained")) (by rfl) (He.glo_ok KX G (c.fact 32 (f := .glo "Unexplained") rfl)) rfl) (fun _ h => h)) (fun _ => rfl))
    (vss_one (vs_eff (ve_append (ep_name (pv 1)) ev_str)))
    vss_nil)
    (vss_cons (vs_if (ev_truth (ev_isP (decL t_InvalidText) (di_InvalidText cx) List.mem_cons_self hz hd rfl (.inl (by rfl)) (by rfl) (He.free_ok KX G (c.fact 22 (f := .free "isinstance") rfl)) (by decide +kernel) (pe_glob (v := V.ref (He.ga K "InvalidText")) (by rfl) (He.glo_ok KX G (c.fact 33 (f := .glo "InvalidText") rfl)) rfl) (fun _ h => h)) (fun _ => rfl))
    (vss_one (vs_eff (ve_append (ep_name (pv 1)) ev_str)))
    vss_nil)
    (vss_cons (vs_kill [1] (vs_if (EvW.t (ew_and (ev_test (op_eqA hu) eqD_ok (EvD.v (ev_callB call_lenA lenD_ok (by rfl) (He.free_ok KX G (c.fact 3 (f := .free "len") rfl)) (by decide +kernel) (ea_cons (ev_var (pv 1)) ea_nil))) (EvD.v ev_int) (nomark _)) (ew_and1 (ev_truth (ev_isP (decL t_ValueError) (di_ValueError cx) List.mem_cons_self hz hd rfl (.inl (by rfl)) (by rfl) (He.free_ok KX G (c.fact 22 (f := .free "isinstance") rfl)) (by decide +kernel) (pe_bltn (v := V.ty "ValueError") (by rfl) (He.free_ok KX G (c.fact 34 (f := .free "ValueError") rfl)) (by decide +kernel) rfl) (fun _ h => h)) (fun _ => rfl)))))
    (vss_one (vs_ret (EvV.d (ev_sub hu (ev_var (pv 1)) (EvD.v ev_int)))))
    vss_nil))
    (vss_one (vs_ret ev_str)))))))))))))))))
theorem sc_d_law_told : FnScope N_d_law_told P_d_law_told (defScope s_d_law_told) := ⟨rfl, rfl, rfl, by decide +kernel, rfl, by decide +kernel, by decide +kernel⟩
theorem ok_d_law_told (KX : K.In h) (G : h.Ns mainGlobals mg) (cx : VI.SaysX file fa fn us xs ys K) (pg : VI.PgOk P file) : ∃ fd, FunD K x_d_law_told.name x_d_law_told.qual x_d_law_told.params x_d_law_told.body x_d_law_told.scope (x_d_law_told.dvs K) (x_d_law_told.kws K) (He.fAd K x_d_law_told.at_) fd ∧
    FnOk P w K mg base CX0 5 (He.fAd K x_d_law_told.at_) fd P_d_law_told (SpF K (cl K) [] 1 f_d_law_told) := by
  have c := cx.u
  obtain ⟨fd, F⟩ := c.def_ 5 (d := x_d_law_told) rfl
  obtain ⟨fd_m_Network_ddinit_x, F_m_Network_ddinit_x, G_m_Network_ddinit_x⟩ := ok_m_Network_ddinit_x (P := P) (w := w) (base := base) KX G cx pg
  have B_m_Network_ddinit_x : Binds K fd_m_Network_ddinit_x P_m_Network_ddinit_x [] := F_m_Network_ddinit_x.bindsN fun _ _ _ _ _ _ us hl => match us, hl with | [_, _], _ => rfl
  obtain ⟨fd_d_law_class_c, F_d_law_class_c, G_d_law_class_c⟩ := ok_d_law_class_c (P := P) (w := w) (base := base) KX G cx pg
  have B_d_law_class_c : Binds K fd_d_law_class_c P_d_law_class_c [] := F_d_law_class_c.bindsN fun _ _ _ _ _ _ us hl => match us, hl with | [_], _ => rfl
  refine ⟨fd, F, fn_of_x (fn_okX F sc_d_law_told fun cdv A outer s H E hr tk hpo => ?_)⟩
  have hu : (cxOf (L2.CX P w) P w K mg base N_d_law_told x_d_law_told.qual x_d_law_told.scope (He.fAd K x_d_law_told.at_) cdv A outer s H E).A.units + 64 < cLine := by have := hr.un; show (A.deeper _).units + 64 < cLine; omega
  have hu5 : (cxOf (L2.CX P w) P w K mg base N_d_law_told x_d_law_told.qual x_d_law_told.scope (He.fAd K x_d_law_told.at_) cdv A outer s H E).A.units + 65 < cLine := by have := hr.un; show (A.deeper _).units + 65 < cLine; omega
  exact (vss_cons (vs_kill [0] (vs_try rfl rfl sc_d_law_told.nd rfl rfl ⟨by rfl, by decide, .inl (He.glo_ok KX G (c.fact 20 (f := .glo "FogError") rfl))⟩ tk (by decide) (dx_FogError cx)
    (fun W pn xe tk hpo => (vss_one (vs_kill [0] (vs_asgX sc_d_law_told.nd rfl (by first | exact .inl rfl | exact .inr rfl) (by decide) (vex_make (cl := ⟨cl K, none, W⟩) (c := 0) tk (He.mkr_ok (c.fact 18 (f := .mkr "Network") rfl)) G_m_Network_ddinit_x (hr.mono (by decide)) (by rfl) (He.glo_ok KX G (c.fact 19 (f := .glo "Network") rfl)) B_m_Network_ddinit_x ar_runX (ea_cons (ev_var (pv 0)) ea_nil))))))
    (fun a oe d pn ci fs hz hd => (vss_cons (vs_if (ev_test (op_eqA hu) eqD_ok (EvD.v (ev_callC G_d_law_class_c (roomS hr (by decide)) List.mem_cons_self (by rfl) (He.glo_ok KX G (c.fact 35 (f := .glo "_law_class") rfl)) F_d_law_class_c.kp B_d_law_class_c hz hd rfl (.inl (by rfl)))) (EvD.v ev_str) (nomark _))
    (vss_one (vs_ret (ev_tup (ed_cons ev_str (ed_cons (EvV.d (ev_xf (inL [8]) (xf_number cx) hz hd rfl (.inl (by rfl)))) ed_nil)))))
    vss_nil)
    (vss_one (vs_ret (ev_tup (ed_cons ev_str (ed_cons ev_int ed_nil)))))))))
    (vss_one (vs_effR (ve_tupE (va_cons (ve_look ev_str) (va_cons (ve_take (pv 2)) va_nil))))))
theorem sc_m_Network_lines : FnScope N_m_Network_lines P_m_Network_lines (defScope s_m_Network_lines) := ⟨rfl, rfl, rfl, by decide +kernel, rfl, by decide +kernel, by decide +kernel⟩
theorem ok_m_Network_lines (KX : K.In h) (G : h.Ns mainGlobals mg) (cx : VI.SaysX file fa fn us xs ys K) (pg : VI.PgOk P file) : ∃ fd, FunD K x_m_Network_lines.name x_m_Network_lines.qual x_m_Network_lines.params x_m_Network_lines.body x_m_Network_lines.scope (x_m_Network_lines.dvs K) (x_m_Network_lines.kws K) (He.fAd K x_m_Network_lines.at_) fd ∧
    FnOk P w K mg base CX0 1 (He.fAd K x_m_Network_lines.at_) fd P_m_Network_lines (SpF K (cl K) [] 1 f_m_Network_lines) := by
  have c := cx.u
  obtain ⟨fd, F⟩ := c.def_ 6 (d := x_m_Network_lines) rfl
  refine ⟨fd, F, fn_ok F sc_m_Network_lines fun cdv A outer s H E hr => ?_⟩
  have hu : (cxOf CX0 P w K mg base N_m_Network_lines x_m_Network_lines.qual x_m_Network_lines.scope (He.fAd K x_m_Network_lines.at_) cdv A outer s H E).nox.A.units + 64 < cLine := by have := hr.un; show (A.deeper _).units + 64 < cLine; omega
  have hu5 : (cxOf CX0 P w K mg base N_m_Network_lines x_m_Network_lines.qual x_m_Network_lines.scope (He.fAd K x_m_Network_lines.at_) cdv A outer s H E).nox.A.units + 65 < cLine := by have := hr.un; show (A.deeper _).units + 65 < cLine; omega
  exact (vss_cons (vs_asg sc_m_Network_lines.nd rfl (by first | exact .inl rfl | exact .inr rfl) (by decide) (ev_lst ed_nil))
    (vss_cons (vs_kill [0] (vs_forK PassesOwn.never rfl (er_fld (cl := tb (cl K)) (c := 0) (He.cls_ok (c.fact 11 (f := .cls "Network") rfl)) (He.noat_ok (c.fact 16 (f := .noat "Network" "spans") rfl)) (er_var (pv 0))) (vg_tup rfl (vgs_cons (vg_name sc_m_Network_lines.nd rfl (by first | exact .inl rfl | exact .inr rfl) (by decide)) (vgs_cons (vg_name sc_m_Network_lines.nd rfl (by first | exact .inl rfl | exact .inr rfl) (by decide)) vgs_nil)))
    (vss_cons (vs_asgG (EvV.d (ev_sub hu (ev_fld (cl := tb (cl K)) (c := 0) (He.cls_ok (c.fact 11 (f := .cls "Network") rfl)) (He.noat_ok (c.fact 16 (f := .noat "Network" "spans") rfl)) (ev_var (pv 0))) (EvD.v (ev_tup (ed_cons (EvV.d (ev_var (pv 2))) (ed_cons (EvV.d (ev_var (pv 3))) ed_nil)))))) (vg_tup rfl (vgs_cons (vg_name sc_m_Network_lines.nd rfl (by first | exact .inl rfl | exact .inr rfl) (by decide)) (vgs_cons (vg_name sc_m_Network_lines.nd rfl (by first | exact .inl rfl | exact .inr rfl) (by decide)) vgs_nil))))
    (vss_one (vs_frz 5 (vs_frz 4 (vs_kill [4, 5, 2, 3] (vs_eff (ve_append (ep_name (pv 1)) (ev_tup (ed_cons (EvV.d (ev_var (pv 2))) (ed_cons (EvV.d (ev_var (pv 3))) (ed_cons (EvV.d (ev_var (pv 4))) (ed_cons (EvV.d (ev_var (pv 5))) ed_nil))))))))))))))
    (vss_one (vs_retV (pv 1) (by decide)))))
theorem sc_d_law_is_integer : FnScope N_d_law_is_integer P_d_law_is_integer (defScope s_d_law_is_integer) := ⟨rfl, rfl, rfl, by decide +kernel, rfl, by decide +kernel, by decide +kernel⟩
theorem ok_d_law_is_integer (KX : K.In h) (G : h.Ns mainGlobals mg) (cx : VI.SaysX file fa fn us xs ys K) (pg : VI.PgOk P file) : ∃ fd, FunD K x_d_law_is_integer.name x_d_law_is_integer.qual x_d_law_is_integer.params x_d_law_is_integer.body x_d_law_is_integer.scope (x_d_law_is_integer.dvs K) (x_d_law_is_integer.kws K) (He.fAd K x_d_law_is_integer.at_) fd ∧
    FnOk P w K mg base CX0 1 (He.fAd K x_d_law_is_integer.at_) fd P_d_law_is_integer (SpF K (cl K) [] 1 f_d_law_is_integer) := by
  have c := cx.u
  obtain ⟨fd, F⟩ := c.def_ 7 (d := x_d_law_is_integer) rfl
  refine ⟨fd, F, fn_ok F sc_d_law_is_integer fun cdv A outer s H E hr => ?_⟩
  have hu : (cxOf CX0 P w K mg base N_d_law_is_integer x_d_law_is_integer.qual x_d_law_is_integer.scope (He.fAd K x_d_law_is_integer.at_) cdv A outer s H E).nox.A.units + 64 < cLine := by have := hr.un; show (A.deeper _).units + 64 < cLine; omega
  have hu5 : (cxOf CX0 P w K mg base N_d_law_is_integer x_d_law_is_integer.qual x_d_law_is_integer.scope (He.fAd K x_d_law_is_integer.at_) cdv A outer s H E).nox.A.units + 65 < cLine := by have := hr.un; show (A.deeper _).units + 65 < cLine; omega
  exact (vss_one (vs_ret (ev_and (EvD.v (ev_isi (by rfl) (He.free_ok KX G (c.fact 22 (f := .free "isinstance") rfl)) (by decide +kernel) (by rfl) (He.free_ok KX G (c.fact 1 (f := .free "int") rfl)) (by decide +kernel) (ev_var (pv 0)))) (ev_one (ev_not (EvD.v (ev_isi (by rfl) (He.free_ok KX G (c.fact 22 (f := .free "isinstance") rfl)) (by decide +kernel) (by rfl) (He.free_ok KX G (c.fact 38 (f := .free "bool") rfl)) (by decide +kernel) (ev_var (pv 0)))))))))
theorem sc_m_Network_ddcontains : FnScope N_m_Network_ddcontains P_m_Network_ddcontains (defScope s_m_Network_ddcontains) := ⟨rfl, rfl, rfl, by decide +kernel, rfl, by decide +kernel, by decide +kernel⟩
theorem ok_m_Network_ddcontains (KX : K.In h) (G : h.Ns mainGlobals mg) (cx : VI.SaysX file fa fn us xs ys K) (pg : VI.PgOk P file) : ∃ fd, FunD K x_m_Network_ddcontains.name x_m_Network_ddcontains.qual x_m_Network_ddcontains.params x_m_Network_ddcontains.body x_m_Network_ddcontains.scope (x_m_Network_ddcontains.dvs K) (x_m_Network_ddcontains.kws K) (He.fAd K x_m_Network_ddcontains.at_) fd ∧
    FnOk P w K mg base CX0 1 (He.fAd K x_m_Network_ddcontains.at_) fd P_m_Network_ddcontains (SpF K (cl K) [] 2 f_m_Network_ddcontains) := by
  have c := cx.u
  obtain ⟨fd, F⟩ := c.def_ 8 (d := x_m_Network_ddcontains) rfl
  refine ⟨fd, F, fn_ok F sc_m_Network_ddcontains fun cdv A outer s H E hr => ?_⟩
  have hu : (cxOf CX0 P w K mg base N_m_Network_ddcontains x_m_Network_ddcontains.qual x_m_Network_ddcontains.scope (He.fAd K x_m_Network_ddcontains.at_) cdv A outer s H E).nox.A.units + 64 < cLine := by have := hr.un; show (A.deeper _).units + 64 < cLine; omega
  have hu5 : (cxOf CX0 P w K mg base N_m_Network_ddcontains x_m_Network_ddcontains.qual x_m_Network_ddcontains.scope (He.fAd K x_m_Network_ddcontains.at_) cdv A outer s H E).nox.A.units + 65 < cLine := by have := hr.un; show (A.deeper _).units + 65 < cLine; omega
  exact (vss_one (vs_ret (ev_in hu5 (ev_var (pv 1)) (ev_fld (cl := tb (cl K)) (c := 0) (He.cls_ok (c.fact 11 (f := .cls "Network") rfl)) (He.noat_ok (c.fact 15 (f := .noat "Network" "needs") rfl)) (ev_var (pv 0))))))
theorem sc_m_Network_ddlen : FnScope N_m_Network_ddlen P_m_Network_ddlen (defScope s_m_Network_ddlen) := ⟨rfl, rfl, rfl, by decide +kernel, rfl, by decide +kernel, by decide +kernel⟩
theorem ok_m_Network_ddlen (KX : K.In h) (G : h.Ns mainGlobals mg) (cx : VI.SaysX file fa fn us xs ys K) (pg : VI.PgOk P file) : ∃ fd, FunD K x_m_Network_ddlen.name x_m_Network_ddlen.qual x_m_Network_ddlen.params x_m_Network_ddlen.body x_m_Network_ddlen.scope (x_m_Network_ddlen.dvs K) (x_m_Network_ddlen.kws K) (He.fAd K x_m_Network_ddlen.at_) fd ∧
    FnOk P w K mg base CX0 1 (He.fAd K x_m_Network_ddlen.at_) fd P_m_Network_ddlen (spLn K (cl K 0) "names") := by
  have c := cx.u
  obtain ⟨fd, F⟩ := c.def_ 9 (d := x_m_Network_ddlen) rfl
  exact ⟨fd, F, F.ok sc_m_Network_ddlen (fun vs H Q E h => by obtain ⟨_, _, _, _, _, rfl, _⟩ := h; rfl) fun cdv A outer s H vs Q E hr h => len_pss (He.cls_ok (c.fact 11 (f := .cls "Network") rfl)) (He.noat_ok (c.fact 13 (f := .noat "Network" "names") rfl)) (by rfl) (He.free_ok KX G (c.fact 3 (f := .free "len") rfl)) (by decide +kernel) (pv 0) (h := h)⟩
theorem sc_m_Network_dditer : FnScope N_m_Network_dditer P_m_Network_dditer (defScope s_m_Network_dditer) := ⟨rfl, rfl, rfl, by decide +kernel, rfl, by decide +kernel, by decide +kernel⟩
theorem ok_m_Network_dditer (KX : K.In h) (G : h.Ns mainGlobals mg) (cx : VI.SaysX file fa fn us xs ys K) (pg : VI.PgOk P file) : ∃ fd, FunD K x_m_Network_dditer.name x_m_Network_dditer.qual x_m_Network_dditer.params x_m_Network_dditer.body x_m_Network_dditer.scope (x_m_Network_dditer.dvs K) (x_m_Network_dditer.kws K) (He.fAd K x_m_Network_dditer.at_) fd ∧
    ∀ base : Heap, FnOk P w K mg base CX0 1 (He.fAd K x_m_Network_dditer.at_) fd P_m_Network_dditer (spIt K (cl K 0) "names" base.objs.size) := by
  have c := cx.u
  obtain ⟨fd, F⟩ := c.def_ 10 (d := x_m_Network_dditer) rfl
  exact ⟨fd, F, fun base => F.ok sc_m_Network_dditer (fun vs H Q E h => by obtain ⟨_, _, _, _, _, rfl, _⟩ := h; rfl) fun cdv A outer s H vs Q E hr h => iter_pss (He.cls_ok (c.fact 11 (f := .cls "Network") rfl)) (He.noat_ok (c.fact 13 (f := .noat "Network" "names") rfl)) (by rfl) (He.free_ok KX G (c.fact 42 (f := .free "iter") rfl)) (pv 0) (h := h)⟩
theorem sc_d_law_is_new : FnScope N_d_law_is_new P_d_law_is_new (defScope s_d_law_is_new) := ⟨rfl, rfl, rfl, by decide +kernel, rfl, by decide +kernel, by decide +kernel⟩
theorem ok_d_law_is_new (KX : K.In h) (G : h.Ns mainGlobals mg) (cx : VI.SaysX file fa fn us xs ys K) (pg : VI.PgOk P file) : ∃ fd, FunD K x_d_law_is_new.name x_d_law_is_new.qual x_d_law_is_new.params x_d_law_is_new.body x_d_law_is_new.scope (x_d_law_is_new.dvs K) (x_d_law_is_new.kws K) (He.fAd K x_d_law_is_new.at_) fd ∧
    FnOk P w K mg base CX0 5 (He.fAd K x_d_law_is_new.at_) fd P_d_law_is_new (SpF K (cl K) [] 2 f_d_law_is_new) := by
  have c := cx.u
  obtain ⟨fd, F⟩ := c.def_ 11 (d := x_d_law_is_new) rfl
  obtain ⟨fd_m_Network_lines, F_m_Network_lines, G_m_Network_lines⟩ := ok_m_Network_lines (P := P) (w := w) (base := base) KX G cx pg
  have B_m_Network_lines : Binds K fd_m_Network_lines P_m_Network_lines [] := F_m_Network_lines.bindsN fun _ _ _ _ _ _ us hl => match us, hl with | [_], _ => rfl
  obtain ⟨fd_d_law_is_integer, F_d_law_is_integer, G_d_law_is_integer⟩ := ok_d_law_is_integer (P := P) (w := w) (base := base) KX G cx pg
  have B_d_law_is_integer : Binds K fd_d_law_is_integer P_d_law_is_integer [] := F_d_law_is_integer.bindsN fun _ _ _ _ _ _ us hl => match us, hl with | [_], _ => rfl
  obtain ⟨fd_m_Network_ddcontains, F_m_Network_ddcontains, G_m_Network_ddcontains⟩ := ok_m_Network_ddcontains (P := P) (w := w) (base := base) KX G cx pg
  have B_m_Network_ddcontains : Binds K fd_m_Network_ddcontains P_m_Network_ddcontains [] := F_m_Network_ddcontains.bindsN fun _ _ _ _ _ _ us hl => match us, hl with | [_, _], _ => rfl
  obtain ⟨fd_m_Network_ddlen, F_m_Network_ddlen, G_m_Network_ddlen⟩ := ok_m_Network_ddlen (P := P) (w := w) (base := base) KX G cx pg
  have B_m_Network_ddlen : Binds K fd_m_Network_ddlen P_m_Network_ddlen [] := F_m_Network_ddlen.bindsN fun _ _ _ _ _ _ us hl => match us, hl with | [_], _ => rfl
  obtain ⟨fd_m_Network_dditer, F_m_Network_dditer, G_m_Network_dditer⟩ := ok_m_Network_dditer (P := P) (w := w) KX G cx pg
  have B_m_Network_dditer : Binds K fd_m_Network_dditer P_m_Network_dditer [] := F_m_Network_dditer.bindsN fun _ _ _ _ _ _ us hl => match us, hl with | [_], _ => rfl
  refine ⟨fd, F, fn_ok F sc_d_law_is_new fun cdv A outer s H E hr => ?_⟩
  have hu : (cxOf CX0 P w K mg base N_d_law_is_new x_d_law_is_new.qual x_d_law_is_new.scope (He.fAd K x_d_law_is_new.at_) cdv A outer s H E).nox.A.units + 64 < cLine := by have := hr.un; show (A.deeper _).units + 64 < cLine; omega
  have hu5 : (cxOf CX0 P w K mg base N_d_law_is_new x_d_law_is_new.qual x_d_law_is_new.scope (He.fAd K x_d_law_is_new.at_) cdv A outer s H E).nox.A.units + 65 < cLine := by have := hr.un; show (A.deeper _).units + 65 < cLine; omega
  exact (vss_cons (vs_asg sc_d_law_is_new.nd rfl (by first | exact .inl rfl | exact .inr rfl) (by decide) (ev_methP0 (cl := tb (cl K)) (c := 0) (He.cls_ok (c.fact 11 (f := .cls "Network") rfl)) (He.meth_ok (c.fact 37 (f := .meth "Network" "lines") rfl)) G_m_Network_lines (hr.mono (by decide)) B_m_Network_lines ar_runF (ev_var (pv 0))))
    (vss_cons (vs_kill [1] (vs_if (EvW.t (ew_or (et_not (ev_truth (EvD.v (ev_callP G_d_law_is_integer (hr.mono (by decide)) (by rfl) (He.glo_ok KX G (c.fact 39 (f := .glo "_law_is_integer") rfl)) F_d_law_is_integer.kp B_d_law_is_integer ar_runF (ea_cons (ev_fld (cl := tb (cl K)) (c := 0) (He.cls_ok (c.fact 11 (f := .cls "Network") rfl)) (He.noat_ok (c.fact 12 (f := .noat "Network" "dawn") rfl)) (ev_var (pv 0))) ea_nil))) (fun _ => rfl))) (ew_or1 (ev_test (op_neA hu) neD_ok (ev_fld (cl := tb (cl K)) (c := 0) (He.cls_ok (c.fact 11 (f := .cls "Network") rfl)) (He.noat_ok (c.fact 12 (f := .noat "Network" "dawn") rfl)) (ev_var (pv 0))) (ev_var (pv 1)) (nomark _)))))
    (vss_one (vs_ret ev_bl))
    vss_nil))
    (vss_cons (vs_kill [2] (vs_if (EvW.t (ew_or (et_not (ev_truth (EvD.v (ev_isi (by rfl) (He.free_ok KX G (c.fact 22 (f := .free "isinstance") rfl)) (by decide +kernel) (by rfl) (He.free_ok KX G (c.fact 40 (f := .free "list") rfl)) (by decide +kernel) (ev_var (pv 2)))) (fun _ => rfl))) (ew_or1 (ev_test (op_neA hu) neD_ok (EvD.v (ev_callB call_lenA lenD_ok (by rfl) (He.free_ok KX G (c.fact 3 (f := .free "len") rfl)) (by decide +kernel) (ea_cons (ev_var (pv 2)) ea_nil))) (EvD.v ev_int) (nomark _)))))
    (vss_one (vs_ret ev_bl))
    vss_nil))
    (vss_one (vs_ret (ev_and (EvD.v (ev_cmp (op_eqA hu) eqD_ok (EvD.v (ev_callB (call_lenF (C := cl K 0) (He.meth_ok (c.fact 43 (f := .meth "Network" "__len__") rfl)) G_m_Network_ddlen (hr.mono (by decide)) B_m_Network_ddlen) lenF_ok (by rfl) (He.free_ok KX G (c.fact 3 (f := .free "len") rfl)) (by decide +kernel) (ea_cons (ev_var (pv 0)) ea_nil))) (EvD.v ev_int) (nomark _))) (ev_and (EvD.v (ev_cmp (op_eqA hu) eqD_ok (EvD.v (ev_callT (call_lstOwn (C := cl K 0) rfl (He.meth_ok (c.fact 43 (f := .meth "Network" "__len__") rfl)) G_m_Network_ddlen (hr.mono (by decide)) B_m_Network_ddlen (He.meth_ok (c.fact 44 (f := .meth "Network" "__iter__") rfl)) G_m_Network_dditer (hr.mono (by decide)) B_m_Network_dditer) lstF_ok (by rfl) (He.free_ok KX G (c.fact 40 (f := .free "list") rfl)) (by decide +kernel) (ea_cons (ev_var (pv 0)) ea_nil))) (EvD.v (ev_lst ed_nil)) (nomark _))) (ev_one (ev_cmp (op_ninOwn (C := cl K 0) (He.meth_ok (c.fact 41 (f := .meth "Network" "__contains__") rfl)) G_m_Network_ddcontains (hr.mono (by decide)) B_m_Network_ddcontains) inOwn_ok (EvD.v ev_str) (ev_var (pv 0)) (by rfl))))))))))
theorem sc_d_law_other_errors : FnScope N_d_law_other_errors P_d_law_other_errors (defScope s_d_law_other_errors) := ⟨rfl, rfl, rfl, by decide +kernel, rfl, by decide +kernel, by decide +kernel⟩
theorem ok_d_law_other_errors (KX : K.In h) (G : h.Ns mainGlobals mg) (cx : VI.SaysX file fa fn us xs ys K) (pg : VI.PgOk P file) : ∃ fd, FunD K x_d_law_other_errors.name x_d_law_other_errors.qual x_d_law_other_errors.params x_d_law_other_errors.body x_d_law_other_errors.scope (x_d_law_other_errors.dvs K) (x_d_law_other_errors.kws K) (He.fAd K x_d_law_other_errors.at_) fd ∧
    FnOk P w K mg base CX0 3 (He.fAd K x_d_law_other_errors.at_) fd P_d_law_other_errors (SpF K (cl K) [] 3 f_d_law_other_errors) := by
  have c := cx.u
  obtain ⟨fd, F⟩ := c.def_ 12 (d := x_d_law_other_errors) rfl
  refine ⟨fd, F, fn_ok F sc_d_law_other_errors fun cdv A outer s H E hr => ?_⟩
  have hu : (cxOf CX0 P w K mg base N_d_law_other_errors x_d_law_other_errors.qual x_d_law_other_errors.scope (He.fAd K x_d_law_other_errors.at_) cdv A outer s H E).nox.A.units + 64 < cLine := by have := hr.un; show (A.deeper _).units + 64 < cLine; omega
  have hu5 : (cxOf CX0 P w K mg base N_d_law_other_errors x_d_law_other_errors.qual x_d_law_other_errors.scope (He.fAd K x_d_law_other_errors.at_) cdv A outer s H E).nox.A.units + 65 < cLine := by have := hr.un; show (A.deeper _).units + 65 < cLine; omega
  exact (vss_cons (vs_asg sc_d_law_other_errors.nd rfl (by first | exact .inl rfl | exact .inr rfl) (by decide) (ev_tup (ed_cons (EvV.d (ev_var (pv 0))) (ed_cons (EvV.d (ev_var (pv 0))) ed_nil))))
    (vss_cons (vs_asg sc_d_law_other_errors.nd rfl (by first | exact .inl rfl | exact .inr rfl) (by decide) (ev_lst (ed_cons (ev_lst (ed_cons (ev_tup (ed_cons ev_str (ed_cons (EvV.d (ev_var (pv 0))) (ed_cons (EvV.d (ev_var (pv 0))) (ed_cons (EvV.d (ev_var (pv 1))) ed_nil))))) ed_nil)) ed_nil)))
    (vss_cons (vs_asg sc_d_law_other_errors.nd rfl (by first | exact .inl rfl | exact .inr rfl) (by decide) (ev_exc (cl := tb (cl K)) (c := 12) (hr.mono (by decide)) (xk_EmptyWindow KX G cx pg) (by rfl) (He.glo_ok KX G (c.fact 30 (f := .glo "EmptyWindow") rfl)) (ea_cons (ev_var (pv 0)) (ea_cons (ev_var (pv 1)) (ea_cons (ev_var (pv 2)) ea_nil)))))
    (vss_cons (vs_kill [5, 2] (vs_if (EvW.t (ew_or (ev_test (op_neA hu) neD_ok (ev_xfV (cl := tb (cl K)) (inL [3, 4, 7, 9, 12]) (xf_name cx) (ev_var (pv 5))) (ev_var (pv 0)) (nomark _)) (ew_or (ev_test (op_neA hu) neD_ok (ev_xfV (cl := tb (cl K)) (inL [12]) (xf_low cx) (ev_var (pv 5))) (ev_var (pv 1)) (nomark _)) (ew_or1 (ev_test (op_neA hu) neD_ok (ev_xfV (cl := tb (cl K)) (inL [12]) (xf_high cx) (ev_var (pv 5))) (ev_var (pv 2)) (nomark _))))))
    (vss_one (vs_ret ev_bl))
    vss_nil))
    (vss_cons (vs_if (EvW.t (ew_or (ev_test (op_neA hu) neD_ok (ev_xfV (cl := tb (cl K)) (inL [5]) (xf_entry cx) (EvD.v (ev_exc (cl := tb (cl K)) (c := 5) (hr.mono (by decide)) (xk_DuplicateEntry KX G cx pg) (by rfl) (He.glo_ok KX G (c.fact 24 (f := .glo "DuplicateEntry") rfl)) (ea_cons (ev_var (pv 3)) ea_nil)))) (ev_var (pv 3)) (nomark _)) (ew_or1 (ev_test (op_neA hu) neD_ok (ev_xfV (cl := tb (cl K)) (inL [5]) (xf_entry cx) (EvD.v (ev_exc (cl := tb (cl K)) (c := 5) (hr.mono (by decide)) (xk_DuplicateEntry KX G cx pg) (by rfl) (He.glo_ok KX G (c.fact 24 (f := .glo "DuplicateEntry") rfl)) (ea_cons (ev_var (pv 0)) ea_nil)))) (ev_var (pv 0)) (nomark _)))))
    (vss_one (vs_ret ev_bl))
    vss_nil)
    (vss_cons (vs_kill [3] (vs_if (EvW.t (ew_or (ev_test (op_neA hu) neD_ok (ev_xfV (cl := tb (cl K)) (inL [10]) (xf_fault cx) (EvD.v (ev_exc (cl := tb (cl K)) (c := 10) (hr.mono (by decide)) (xk_InvalidFault KX G cx pg) (by rfl) (He.glo_ok KX G (c.fact 28 (f := .glo "InvalidFault") rfl)) (ea_cons (EvD.v (ev_tup (ed_cons (EvV.d (ev_var (pv 0))) (ed_cons ev_str ed_nil)))) ea_nil)))) (EvD.v (ev_tup (ed_cons (EvV.d (ev_var (pv 0))) (ed_cons ev_str ed_nil)))) (nomark _)) (ew_or1 (ev_test (op_neA hu) neD_ok (ev_xfV (cl := tb (cl K)) (inL [11]) (xf_pair cx) (EvD.v (ev_exc (cl := tb (cl K)) (c := 11) (hr.mono (by decide)) (xk_InvalidLateness KX G cx pg) (by rfl) (He.glo_ok KX G (c.fact 29 (f := .glo "InvalidLateness") rfl)) (ea_cons (ev_var (pv 3)) ea_nil)))) (ev_var (pv 3)) (nomark _)))))
    (vss_one (vs_ret ev_bl))
    vss_nil))
    (vss_one (vs_frz 4 (vs_ret (ev_cmp (op_eqA hu) eqD_ok (ev_xfV (cl := tb (cl K)) (inL [14]) (xf_chains cx) (EvD.v (ev_exc (cl := tb (cl K)) (c := 14) (hr.mono (by decide)) (xk_Unexplained KX G cx pg) (by rfl) (He.glo_ok KX G (c.fact 32 (f := .glo "Unexplained") rfl)) (ea_cons (ev_var (pv 4)) ea_nil)))) (EvD.v (ev_lst (ed_cons (ev_lst (ed_cons (ev_tup (ed_cons ev_str (ed_cons (EvV.d (ev_var (pv 0))) (ed_cons (EvV.d (ev_var (pv 0))) (ed_cons (EvV.d (ev_var (pv 1))) ed_nil))))) ed_nil)) ed_nil))) (nomark _)))))))))))
theorem sc_d_law_named_errors : FnScope N_d_law_named_errors P_d_law_named_errors (defScope s_d_law_named_errors) := ⟨rfl, rfl, rfl, by decide +kernel, rfl, by decide +kernel, by decide +kernel⟩
theorem ok_d_law_named_errors (KX : K.In h) (G : h.Ns mainGlobals mg) (cx : VI.SaysX file fa fn us xs ys K) (pg : VI.PgOk P file) : ∃ fd, FunD K x_d_law_named_errors.name x_d_law_named_errors.qual x_d_law_named_errors.params x_d_law_named_errors.body x_d_law_named_errors.scope (x_d_law_named_errors.dvs K) (x_d_law_named_errors.kws K) (He.fAd K x_d_law_named_errors.at_) fd ∧
    FnOk P w K mg base CX0 3 (He.fAd K x_d_law_named_errors.at_) fd P_d_law_named_errors (SpF K (cl K) [] 2 f_d_law_named_errors) := by
  have c := cx.u
  obtain ⟨fd, F⟩ := c.def_ 13 (d := x_d_law_named_errors) rfl
  refine ⟨fd, F, fn_ok F sc_d_law_named_errors fun cdv A outer s H E hr => ?_⟩
  have hu : (cxOf CX0 P w K mg base N_d_law_named_errors x_d_law_named_errors.qual x_d_law_named_errors.scope (He.fAd K x_d_law_named_errors.at_) cdv A outer s H E).nox.A.units + 64 < cLine := by have := hr.un; show (A.deeper _).units + 64 < cLine; omega
  have hu5 : (cxOf CX0 P w K mg base N_d_law_named_errors x_d_law_named_errors.qual x_d_law_named_errors.scope (He.fAd K x_d_law_named_errors.at_) cdv A outer s H E).nox.A.units + 65 < cLine := by have := hr.un; show (A.deeper _).units + 65 < cLine; omega
  exact (vss_cons (vs_asg sc_d_law_named_errors.nd rfl (by first | exact .inl rfl | exact .inr rfl) (by decide) (ev_lst (ed_cons (ev_exc (cl := tb (cl K)) (c := 3) (hr.mono (by decide)) (xk_InvalidName KX G cx pg) (by rfl) (He.glo_ok KX G (c.fact 21 (f := .glo "InvalidName") rfl)) (ea_cons (ev_var (pv 0)) ea_nil)) (ed_cons (ev_exc (cl := tb (cl K)) (c := 4) (hr.mono (by decide)) (xk_UnknownKeeper KX G cx pg) (by rfl) (He.glo_ok KX G (c.fact 23 (f := .glo "UnknownKeeper") rfl)) (ea_cons (ev_var (pv 0)) ea_nil)) (ed_cons (ev_exc (cl := tb (cl K)) (c := 7) (hr.mono (by decide)) (xk_SelfLine KX G cx pg) (by rfl) (He.glo_ok KX G (c.fact 26 (f := .glo "SelfLine") rfl)) (ea_cons (ev_var (pv 0)) ea_nil)) (ed_cons (ev_exc (cl := tb (cl K)) (c := 9) (hr.mono (by decide)) (xk_InvalidTable KX G cx pg) (by rfl) (He.glo_ok KX G (c.fact 27 (f := .glo "InvalidTable") rfl)) (ea_cons (ev_var (pv 0)) ea_nil)) ed_nil))))))
    (vss_cons (vs_frz 2 (vs_kill [2, 0] (vs_for PassesOwn.never rfl (vi_any (EvV.d (ev_var (pv 2)))) (vg_name sc_d_law_named_errors.nd rfl (by first | exact .inl rfl | exact .inr rfl) (by decide))
    (vss_one (vs_kill [3] (vs_if (EvW.t (ew_or (ev_test (op_neA hu) neD_ok (ev_xfV (cl := tb (cl K)) (inL [3, 4, 7, 9, 12]) (xf_name cx) (ev_var (pv 3))) (ev_var (pv 0)) (nomark _)) (ew_or (et_not (ev_truth (ev_isV (cl := tb (cl K)) (decL t_FogError) (di_FogError cx) (ev_var (pv 3)) (by rfl) (He.free_ok KX G (c.fact 22 (f := .free "isinstance") rfl)) (by decide +kernel) (pe_glob (v := V.ref (He.ga K "FogError")) (by rfl) (He.glo_ok KX G (c.fact 20 (f := .glo "FogError") rfl)) rfl) (fun _ h => h)) (fun _ => rfl))) (ew_or1 (et_not (ev_truth (ev_isV (cl := tb (cl K)) (decL t_ValueError) (di_ValueError cx) (ev_var (pv 3)) (by rfl) (He.free_ok KX G (c.fact 22 (f := .free "isinstance") rfl)) (by decide +kernel) (pe_bltn (v := V.ty "ValueError") (by rfl) (He.free_ok KX G (c.fact 34 (f := .free "ValueError") rfl)) (by decide +kernel) rfl) (fun _ h => h)) (fun _ => rfl)))))))
    (vss_one (vs_ret ev_bl))
    vss_nil))))))
    (vss_cons (vs_if (EvW.t (ew_or (ev_test (op_neA hu) neD_ok (ev_xfV (cl := tb (cl K)) (inL [8]) (xf_number cx) (EvD.v (ev_exc (cl := tb (cl K)) (c := 8) (hr.mono (by decide)) (xk_InvalidNumber KX G cx pg) (by rfl) (He.glo_ok KX G (c.fact 10 (f := .glo "InvalidNumber") rfl)) (ea_cons (ev_var (pv 1)) ea_nil)))) (ev_var (pv 1)) (nomark _)) (ew_or1 (ev_test (op_neA hu) neD_ok (ev_xfV (cl := tb (cl K)) (inL [6]) (xf_limit cx) (EvD.v (ev_exc (cl := tb (cl K)) (c := 6) (hr.mono (by decide)) (xk_NetworkFull KX G cx pg) (by rfl) (He.glo_ok KX G (c.fact 25 (f := .glo "NetworkFull") rfl)) (ea_cons (ev_var (pv 1)) ea_nil)))) (ev_var (pv 1)) (nomark _)))))
    (vss_one (vs_ret ev_bl))
    vss_nil)
    (vss_one (vs_ret (ev_and (EvD.v (ev_cmp (op_eqA hu) eqD_ok (ev_xfV (cl := tb (cl K)) (inL [13]) (xf_row cx) (EvD.v (ev_exc (cl := tb (cl K)) (c := 13) (hr.mono (by decide)) (xk_InvalidChain KX G cx pg) (by rfl) (He.glo_ok KX G (c.fact 31 (f := .glo "InvalidChain") rfl)) (ea_cons (ev_var (pv 1)) ea_nil)))) (ev_var (pv 1)) (nomark _))) (ev_one (ev_cmp (op_eqA hu) eqD_ok (ev_xfV (cl := tb (cl K)) (inL [15]) (xf_line cx) (EvD.v (ev_exc (cl := tb (cl K)) (c := 15) (hr.mono (by decide)) (xk_InvalidText KX G cx pg) (by rfl) (He.glo_ok KX G (c.fact 33 (f := .glo "InvalidText") rfl)) (ea_cons (ev_var (pv 1)) ea_nil)))) (ev_var (pv 1)) (nomark _)))))))))
theorem sc_d_law : FnScope N_d_law P_d_law (defScope s_d_law) := ⟨rfl, rfl, rfl, by decide +kernel, rfl, by decide +kernel, by decide +kernel⟩
theorem ok_d_law (KX : K.In h) (G : h.Ns mainGlobals mg) (cx : VI.SaysX file fa fn us xs ys K) (pg : VI.PgOk P file) : ∃ fd, FunD K x_d_law.name x_d_law.qual x_d_law.params x_d_law.body x_d_law.scope (x_d_law.dvs K) (x_d_law.kws K) (He.fAd K x_d_law.at_) fd ∧
    FnOk P w K mg base CX0 6 (He.fAd K x_d_law.at_) fd P_d_law (SpF K (cl K) [] 1 f_d_law) := by
  have c := cx.u
  obtain ⟨fd, F⟩ := c.def_ 14 (d := x_d_law) rfl
  obtain ⟨fd_d_law_row, F_d_law_row, G_d_law_row⟩ := ok_d_law_row (P := P) (w := w) (base := base) KX G cx pg
  have B_d_law_row : Binds K fd_d_law_row P_d_law_row [] := F_d_law_row.bindsN fun _ _ _ _ _ _ us hl => match us, hl with | [_, _], _ => rfl
  obtain ⟨fd_d_law_cell, F_d_law_cell, G_d_law_cell⟩ := ok_d_law_cell (P := P) (w := w) (base := base) KX G cx pg
  have B_d_law_cell : Binds K fd_d_law_cell P_d_law_cell [] := F_d_law_cell.bindsN fun _ _ _ _ _ _ us hl => match us, hl with | [_, _], _ => rfl
  obtain ⟨fd_d_law_dawn, F_d_law_dawn, G_d_law_dawn⟩ := ok_d_law_dawn (P := P) (w := w) (base := base) KX G cx pg
  have B_d_law_dawn : Binds K fd_d_law_dawn P_d_law_dawn [] := F_d_law_dawn.bindsN fun _ _ _ _ _ _ us hl => match us, hl with | [_, _], _ => rfl
  obtain ⟨fd_d_law_told, F_d_law_told, G_d_law_told⟩ := ok_d_law_told (P := P) (w := w) (base := base) KX G cx pg
  have B_d_law_told : Binds K fd_d_law_told P_d_law_told [] := F_d_law_told.bindsN fun _ _ _ _ _ _ us hl => match us, hl with | [_], _ => rfl
  obtain ⟨fd_d_law_is_new, F_d_law_is_new, G_d_law_is_new⟩ := ok_d_law_is_new (P := P) (w := w) (base := base) KX G cx pg
  have B_d_law_is_new : Binds K fd_d_law_is_new P_d_law_is_new [] := F_d_law_is_new.bindsN fun _ _ _ _ _ _ us hl => match us, hl with | [_, _], _ => rfl
  obtain ⟨fd_d_law_is_integer, F_d_law_is_integer, G_d_law_is_integer⟩ := ok_d_law_is_integer (P := P) (w := w) (base := base) KX G cx pg
  have B_d_law_is_integer : Binds K fd_d_law_is_integer P_d_law_is_integer [] := F_d_law_is_integer.bindsN fun _ _ _ _ _ _ us hl => match us, hl with | [_], _ => rfl
  obtain ⟨fd_d_law_other_errors, F_d_law_other_errors, G_d_law_other_errors⟩ := ok_d_law_other_errors (P := P) (w := w) (base := base) KX G cx pg
  have B_d_law_other_errors : Binds K fd_d_law_other_errors P_d_law_other_errors [] := F_d_law_other_errors.bindsN fun _ _ _ _ _ _ us hl => match us, hl with | [_, _, _], _ => rfl
  obtain ⟨fd_d_law_named_errors, F_d_law_named_errors, G_d_law_named_errors⟩ := ok_d_law_named_errors (P := P) (w := w) (base := base) KX G cx pg
  have B_d_law_named_errors : Binds K fd_d_law_named_errors P_d_law_named_errors [] := F_d_law_named_errors.bindsN fun _ _ _ _ _ _ us hl => match us, hl with | [_, _], _ => rfl
  refine ⟨fd, F, fn_ok F sc_d_law fun cdv A outer s H E hr => ?_⟩
  have hu : (cxOf CX0 P w K mg base N_d_law x_d_law.qual x_d_law.scope (He.fAd K x_d_law.at_) cdv A outer s H E).nox.A.units + 64 < cLine := by have := hr.un; show (A.deeper _).units + 64 < cLine; omega
  have hu5 : (cxOf CX0 P w K mg base N_d_law x_d_law.qual x_d_law.scope (He.fAd K x_d_law.at_) cdv A outer s H E).nox.A.units + 65 < cLine := by have := hr.un; show (A.deeper _).units + 65 < cLine; omega
  exact (vss_cons (vs_asg sc_d_law.nd rfl (by first | exact .inl rfl | exact .inr rfl) (by decide) (ev_callP G_d_law_row (hr.mono (by decide)) (by rfl) (He.glo_ok KX G (c.fact 5 (f := .glo "_law_row") rfl)) F_d_law_row.kp B_d_law_row ar_runF (ea_cons (EvD.v (ev_callP G_d_law_cell (hr.mono (by decide)) (by rfl) (He.glo_ok KX G (c.fact 4 (f := .glo "_law_cell") rfl)) F_d_law_cell.kp B_d_law_cell ar_runF (ea_cons (ev_var (pv 0)) (ea_cons (EvD.v ev_int) ea_nil)))) (ea_cons (EvD.v ev_int) ea_nil))))
    (vss_cons (vs_kill [0] (vs_asg sc_d_law.nd rfl (by first | exact .inl rfl | exact .inr rfl) (by decide) (ev_callP G_d_law_dawn (hr.mono (by decide)) (by rfl) (He.glo_ok KX G (c.fact 6 (f := .glo "_law_dawn") rfl)) F_d_law_dawn.kp B_d_law_dawn ar_runF (ea_cons (EvD.v (ev_callP G_d_law_cell (hr.mono (by decide)) (by rfl) (He.glo_ok KX G (c.fact 4 (f := .glo "_law_cell") rfl)) F_d_law_cell.kp B_d_law_cell ar_runF (ea_cons (ev_var (pv 0)) (ea_cons (EvD.v ev_int) ea_nil)))) (ea_cons (ev_var (pv 1)) ea_nil)))))
    (vss_cons (vs_asg sc_d_law.nd rfl (by first | exact .inl rfl | exact .inr rfl) (by decide) (EvV.d (ev_sub hu (EvD.v (ev_lst (ed_cons (ev_neg (EvD.v ev_int)) (ed_cons ev_int (ed_cons ev_int (ed_cons ev_int (ed_cons ev_int ed_nil))))))) (EvD.v (ev_op op_mod modD_ok (EvD.v (ev_callT call_int1 intD_ok (by rfl) (He.free_ok KX G (c.fact 1 (f := .free "int") rfl)) (by decide +kernel) (ea_cons (ev_sub hu (ev_var (pv 1)) (EvD.v ev_int)) ea_nil))) (EvD.v ev_int))))))
    (vss_cons (vs_frz 2 (vs_asg sc_d_law.nd rfl (by first | exact .inl rfl | exact .inr rfl) (by decide) (ev_callB ((call_max2 rfl).or (cr_max rfl)) maxD_ok (by rfl) (He.free_ok KX G (c.fact 8 (f := .free "max") rfl)) (by decide +kernel) (ea_cons (EvD.v (ev_lst (ed_cons ev_int (ed_cons (ev_callB ((call_min2 rfl).or (cr_min rfl)) minD_ok (by rfl) (He.free_ok KX G (c.fact 7 (f := .free "min") rfl)) (by decide +kernel) (ea_cons (EvD.v (ev_lst (ed_cons ev_int (ed_cons (EvV.d (ev_var (pv 2))) ed_nil)))) ea_nil)) ed_nil)))) ea_nil))))
    (vss_cons (vs_asg sc_d_law.nd rfl (by first | exact .inl rfl | exact .inr rfl) (by decide) (EvV.d (ev_sub hu (EvD.v (ev_lst (ed_cons ev_int (ed_cons ev_int ed_nil)))) (EvD.v (ev_op op_mod modD_ok (EvD.v (ev_callT call_int1 intD_ok (by rfl) (He.free_ok KX G (c.fact 1 (f := .free "int") rfl)) (by decide +kernel) (ea_cons (ev_sub hu (ev_var (pv 1)) (EvD.v ev_int)) ea_nil))) (EvD.v ev_int))))))
    (vss_cons (vs_asg sc_d_law.nd rfl (by first | exact .inl rfl | exact .inr rfl) (by decide) (ev_lst ed_nil))
    (vss_cons (vs_asg sc_d_law.nd rfl (by first | exact .inl rfl | exact .inr rfl) (by decide) (ev_lst ed_nil))
    (vss_cons (vs_frz 5 (vs_frz 4 (vs_frz 3 (vs_frz 2 (vs_kill [5, 3] (vs_for PassesOwn.never rfl (vi_any (ev_lst (ed_cons (EvV.d (ev_var (pv 2))) (ed_cons (EvV.d (ev_var (pv 3))) (ed_cons (EvV.d (ev_var (pv 4))) (ed_cons (EvV.d (ev_var (pv 5))) (ed_cons (EvV.d (ev_var (pv 2))) ed_nil))))))) (vg_name sc_d_law.nd rfl (by first | exact .inl rfl | exact .inr rfl) (by decide))
    (vss_cons (vs_asg sc_d_law.nd rfl (by first | exact .inl rfl | exact .inr rfl) (by decide) (ev_callP G_d_law_told (hr.mono (by decide)) (by rfl) (He.glo_ok KX G (c.fact 36 (f := .glo "_law_told") rfl)) F_d_law_told.kp B_d_law_told ar_T (ea_cons (ev_var (pv 8)) ea_nil)))
    (vss_one (vs_frz 11 (vs_kill [8, 11] (vs_if (et_chain op_le leD_ok op_le leD_ok (EvD.v ev_int) (ev_var (pv 8)) (EvD.v ev_int))
    (vss_cons (vs_frz 11 (vs_if (EvW.t (ew_or (ev_test (op_neA hu) neD_ok (ev_sub hu (ev_var (pv 11)) (EvD.v ev_int)) (EvD.v ev_str) (nomark _)) (ew_or1 (et_not (ev_truth (EvD.v (ev_callP G_d_law_is_new (hr.mono (by decide)) (by rfl) (He.glo_ok KX G (c.fact 45 (f := .glo "_law_is_new") rfl)) F_d_law_is_new.kp B_d_law_is_new ar_runF (ea_cons (ev_sub hu (ev_var (pv 11)) (EvD.v ev_int)) (ea_cons (ev_var (pv 8)) ea_nil)))) (fun _ => rfl))))))
    (vss_one (vs_ret ev_bl))
    vss_nil))
    (vss_cons (vs_eff (ve_append (ep_name (pv 6)) (EvV.d (ev_sub hu (ev_var (pv 11)) (EvD.v ev_int)))))
    (vss_one (vs_eff (ve_append (ep_name (pv 7)) (EvV.d (ev_var (pv 8))))))))
    (vss_one (vs_frz 11 (vs_if (EvW.t (ew_or (ev_test (op_neA hu) neD_ok (ev_sub hu (ev_var (pv 11)) (EvD.v ev_int)) (EvD.v ev_str) (nomark _)) (ew_or (et_not (ev_truth (EvD.v (ev_callP G_d_law_is_integer (hr.mono (by decide)) (by rfl) (He.glo_ok KX G (c.fact 39 (f := .glo "_law_is_integer") rfl)) F_d_law_is_integer.kp B_d_law_is_integer ar_runF (ea_cons (ev_sub hu (ev_var (pv 11)) (EvD.v ev_int)) ea_nil))) (fun _ => rfl))) (ew_or1 (ev_test (op_neA hu) neD_ok (ev_sub hu (ev_var (pv 11)) (EvD.v ev_int)) (ev_var (pv 8)) (nomark _))))))
    (vss_one (vs_ret ev_bl))
    vss_nil))))))))))))))
    (vss_cons (vs_kill [7, 6] (vs_for PassesOwn.never rfl (vi_range1 (by rfl) (He.free_ok KX G (c.fact 2 (f := .free "range") rfl)) (ea_cons (EvD.v (ev_callB call_lenA lenD_ok (by rfl) (He.free_ok KX G (c.fact 3 (f := .free "len") rfl)) (by decide +kernel) (ea_cons (ev_var (pv 6)) ea_nil))) ea_nil)) (vg_name sc_d_law.nd rfl (by first | exact .inl rfl | exact .inr rfl) (by decide))
    (vss_one (vs_kill [9] (vs_if (et_not (ev_truth (EvD.v (ev_callP G_d_law_is_new (hr.mono (by decide)) (by rfl) (He.glo_ok KX G (c.fact 45 (f := .glo "_law_is_new") rfl)) F_d_law_is_new.kp B_d_law_is_new ar_runF (ea_cons (ev_sub hu (ev_var (pv 6)) (ev_var (pv 9))) (ea_cons (ev_sub hu (ev_var (pv 7)) (ev_var (pv 9))) ea_nil)))) (fun _ => rfl)))
    (vss_one (vs_ret ev_bl))
    vss_nil)))))
    (vss_cons (vs_kill [1] (vs_asg sc_d_law.nd rfl (by first | exact .inl rfl | exact .inr rfl) (by decide) (EvV.d (ev_sub hu (EvD.v (ev_lst (ed_cons ev_str (ed_cons ev_str (ed_cons ev_str (ed_cons ev_str (ed_cons ev_str ed_nil))))))) (EvD.v (ev_op op_mod modD_ok (EvD.v (ev_callT call_int1 intD_ok (by rfl) (He.free_ok KX G (c.fact 1 (f := .free "int") rfl)) (by decide +kernel) (ea_cons (ev_sub hu (ev_var (pv 1)) (EvD.v ev_int)) ea_nil))) (EvD.v ev_int)))))))
    (vss_one (vs_ret (ev_and (EvD.v (ev_callP G_d_law_named_errors (hr.mono (by decide)) (by rfl) (He.glo_ok KX G (c.fact 47 (f := .glo "_law_named_errors") rfl)) F_d_law_named_errors.kp B_d_law_named_errors ar_runF (ea_cons (ev_var (pv 10)) (ea_cons (ev_var (pv 2)) ea_nil)))) (ev_one (ev_callP G_d_law_other_errors (hr.mono (by decide)) (by rfl) (He.glo_ok KX G (c.fact 46 (f := .glo "_law_other_errors") rfl)) F_d_law_other_errors.kp B_d_law_other_errors ar_runF (ea_cons (ev_var (pv 10)) (ea_cons (ev_var (pv 4)) (ea_cons (ev_var (pv 2)) ea_nil))))))))))))))))))
end
/-! ### the pure part -/
theorem five_of {row : List Int} (h : row.length = 5) : ∃ a b c d e, row = [a, b, c, d, e] := by
  match row, h with
  | [a, b, c, d, e], _ => exact ⟨a, b, c, d, e, rfl⟩
theorem pick_ap {xs : List D} {i : Int} (h : xs.length = 5) : ∃ d, d ∈ xs ∧ atI xs (i % 5) = some d := by
  have h0 : 0 ≤ i % 5 := by omega
  have h5 : i % 5 < 5 := by omega
  obtain ⟨n, hn⟩ : ∃ n : Nat, i % 5 = n := ⟨(i % 5).toNat, by omega⟩
  have hl : n < xs.length := by omega
  rw [hn, atI_nat hl]
  exact ⟨xs[n], List.getElem_mem hl, List.getElem?_eq_getElem hl⟩
theorem edge_ap (i : Int) : ∃ j : Int, atI [D.int (-1), .int 0, .int 1, .int 100, .int 101] (i % 5) = some (.int j) := by
  obtain ⟨d1, m1, e1⟩ := pick_ap (xs := [D.int (-1), .int 0, .int 1, .int 100, .int 101]) (i := i) rfl
  obtain ⟨j, rfl⟩ : ∃ j, d1 = .int j := by
    simp only [List.mem_cons, List.not_mem_nil, or_false] at m1
    rcases m1 with rfl | rfl | rfl | rfl | rfl <;> exact ⟨_, rfl⟩
  exact ⟨j, e1⟩
/-- the dawn is a whole number -/
theorem dawn_ap {c : Int} {bl : Bool} {row : List Int} (h : row.length = 5) : ∃ d : Int, ap f_d_law_dawn [.int c, .lst bl (row.map D.int)] = some (.int d) := by
  obtain ⟨a0, a1, a2, a3, a4, rfl⟩ := five_of h
  obtain ⟨j, e1⟩ := edge_ap a1
  by_cases h1 : a0 % 4 < 2
  · exact ⟨c % 130 - 15, ap_run rfl (by simp [env0, b_d_law_dawn, h1]) (by simp)⟩
  by_cases h2 : a0 % 4 = 2
  · exact ⟨j, ap_run rfl (by simp [env0, b_d_law_dawn, h2, e1]) (by simp)⟩
  by_cases h3 : a3 % 2 = 1 <;> by_cases h4 : a1 % 2 = 1 <;>
    exact ⟨_, ap_run rfl (by simp [env0, b_d_law_dawn, h1, h2, h3, h4]; rfl) (by simp)⟩
--CUT
theorem init_x (n : Int) : apMX f_m_Network_ddinit_x 0 [.int n] = some (if 1 ≤ n ∧ n ≤ 100 then .rt (netD true (.new n)) else .xc 8 [("number", .int n)]) := by
  by_cases h1 : 1 ≤ n
  · by_cases h2 : n ≤ 100
    · simp [apMX, f_m_Network_ddinit_x, runX, b_m_Network_ddinit_x, h1, h2]
      rfl
    · simp [apMX, f_m_Network_ddinit_x, runX, b_m_Network_ddinit_x, h1, h2]
  · simp [apMX, f_m_Network_ddinit_x, runX, b_m_Network_ddinit_x, h1]
def toldD (n : Int) : D := if 1 ≤ n ∧ n ≤ 100 then .tup [.str "let", netD true (.new n)] else .tup [.str "InvalidNumber", .int n]
theorem class_8 : f_d_law_class_c 8 = some (.str "InvalidNumber") := by
  simp [f_d_law_class_c, runE, b_d_law_class_c, t_InvalidName, t_UnknownKeeper, t_DuplicateEntry, t_NetworkFull, t_SelfLine, t_InvalidNumber, t_InvalidTable, t_InvalidFault, t_InvalidLateness, t_EmptyWindow, t_InvalidChain, t_Unexplained, t_InvalidText, t_ValueError]
theorem told_ap (n : Int) : ap f_d_law_told [.int n] = some (toldD n) := by
  unfold toldD
  by_cases h : 1 ≤ n ∧ n ≤ 100
  · rw [if_pos h]
    refine apT_run rfl ?_ (by simp)
    simp [env0, b_d_law_told, t1_d_law_told, init_x, h]
  · rw [if_neg h]
    refine apT_run rfl ?_ (by simp)
    simp [env0, b_d_law_told, t1_d_law_told, u1_d_law_told, init_x, h, class_8, t_FogError]
theorem is_new_ap {n : Int} {b : Bool} : ap f_d_law_is_new [netD b (.new n), .int n] = some (.bl true) := by
  refine ap_run rfl ?_ (by simp)
  have e1 : (Net.new n).names = [] := rfl
  have e2 : (Net.new n).dawn = n := rfl
  have hl : ap f_m_Network_lines [netD false (.new n)] = some (.lst true []) := lines_ap (N := .new n) (b := false) (by simp [Net.new]) (by simp [Net.new])
  have hc : ap f_m_Network_ddcontains [netD false (.new n), .str "a"] = some (.bl false) := by rw [contains_ap, e1]; simp
  have h1 := lenF_net (b := false) (N := .new n) (by rw [e1]; simp)
  have h2 := lstF_net (b := false) (N := .new n) (by rw [e1]; simp)
  rw [e1] at h1 h2
  simp [env0, b_d_law_is_new, hl, hc, h1, h2, e2]
--CUT
theorem look1 {f : Str} {d : D} : List.lookup f [(f, d)] = some d := by simp [List.lookup]
theorem named_ap {t : Str} {d : Int} : ap f_d_law_named_errors [.str t, .int d] = some (.bl true) := by
  refine ap_run rfl ?_ (by simp)
  simp [env0, b_d_law_named_errors, l1_d_law_named_errors, t_FogError, t_ValueError, forB_cons, look1]
theorem win_look {t : Str} {a d : Int} : List.lookup ("name" : Str) [(("high" : Str), D.int d), ("low", .int a), ("name", .str t)] = some (.str t) ∧ List.lookup ("low" : Str) [(("high" : Str), D.int d), ("low", .int a), ("name", .str t)] = some (.int a) ∧ List.lookup ("high" : Str) [(("high" : Str), D.int d), ("low", .int a), ("name", .str t)] = some (.int d) := by
  have h1 : (("name" : Str) == ("high" : Str)) = false := by decide +kernel
  have h2 : (("name" : Str) == ("low" : Str)) = false := by decide +kernel
  have h3 : (("low" : Str) == ("high" : Str)) = false := by decide +kernel
  refine ⟨?_, ?_, ?_⟩ <;> simp [List.lookup, h1, h2, h3]
theorem other_ap {t : Str} {a d : Int} (ht : PyData.strOk t = true) : ap f_d_law_other_errors [.str t, .int a, .int d] = some (.bl true) := by
  obtain ⟨w1, w2, w3⟩ := win_look (t := t) (a := a) (d := d)
  refine ap_run rfl ?_ (by simp)
  have he : PyData.strOk (Str.ofString "err") = true := by decide +kernel
  have hn : PyData.strOk (Str.ofString "note") = true := by decide +kernel
  simp [env0, b_d_law_other_errors, look1, w1, w2, w3, ht, he, hn]
--CUT
def newD (n : Int) : D := netD false (.new n)
theorem pure_law (ns : List Int) (hl : ns.length ≤ 63) : ∃ A, f_d_law [.scr ns] = some (.bl true, A) := by
  obtain ⟨c0, hc0⟩ := cell_ex ns 0 (by omega)
  obtain ⟨c1, hc1⟩ := cell_ex ns 1 (by omega)
  obtain ⟨row, h5, _, hrow⟩ := row_ex c0 5
  have h5 : row.length = 5 := by omega
  obtain ⟨d, hdawn⟩ := dawn_ap (c := c1) (bl := true) h5
  obtain ⟨a0, a1, a2, a3, a4, rfl⟩ := five_of h5
  obtain ⟨e, he⟩ := edge_ap a2
  obtain ⟨dt, mt, et⟩ := pick_ap (xs := [D.str "a", .str "", .str "Fog 1", .str "zz", .str "beacon"]) (i := a3) rfl
  obtain ⟨tx, rfl, htx⟩ : ∃ j, dt = .str j ∧ PyData.strOk j = true := by
    simp only [List.mem_cons, List.not_mem_nil, or_false] at mt
    rcases mt with rfl | rfl | rfl | rfl | rfl <;> exact ⟨_, rfl, by decide +kernel⟩
  have hb : ∃ z : Int, atI [D.int 0, .int 101] (a4 % 2) = some (.int z) := by
    rcases (by omega : a4 % 2 = 0 ∨ a4 % 2 = 1) with h | h <;> rw [h]
    · exact ⟨0, rfl⟩
    · exact ⟨101, rfl⟩
  obtain ⟨z, hz⟩ := hb
  simp only [List.map_cons, List.map_nil] at hrow hdawn
  generalize hm : max 1 (min 100 d) = m
  -- the numbers
  obtain ⟨acc, h1, ha, hin⟩ := for_inv (g := tgN 8) (mb := l1_d_law) D.int
    (fun acc : List Int => [none, some (.lst true [.int a0, .int a1, .int a2, .int a3, .int a4]), some (.int d), some (.int e), some (.int m), some (.int z), some (.lst true (acc.map newD)), some (.lst true (acc.map D.int)), none, none, none, none])
    (fun i acc => acc.length ≤ i ∧ ∀ n ∈ acc, 1 ≤ n ∧ n ≤ 100) [d, e, m, z, d] [] ⟨by simp, by simp⟩ (by
      rintro i n acc hn ⟨g1, g2⟩
      have hi : i < 5 := (List.getElem?_eq_some_iff.mp hn).1
      have hal : acc.length < 1000000 := by omega
      by_cases h : 1 ≤ n ∧ n ≤ 100
      · refine ⟨acc ++ [n], .inl ?_, by simp; omega, ?_⟩
        · simp [l1_d_law, told_ap, toldD, h, is_new_ap, hal, newD]
        · intro k hk
          rcases List.mem_append.mp hk with hk | hk
          · exact g2 k hk
          · simp at hk; subst hk; exact h
      · refine ⟨acc, .inl ?_, by omega, g2⟩
        by_cases q : 1 ≤ n
        · have q2 : ¬ n ≤ 100 := fun z => h ⟨q, z⟩
          simp [l1_d_law, told_ap, toldD, q, q2]
        · simp [l1_d_law, told_ap, toldD, q])
  have h2 := for_det (g := tgN 9) (mb := l2_d_law) (fun k : Nat => D.int k)
    (fun _ => [none, some (.lst true [.int a0, .int a1, .int a2, .int a3, .int a4]), some (.int d), none, some (.int m), none, some (.lst true (acc.map newD)), some (.lst true (acc.map D.int)), none, none, none, none])
    (List.range acc.length) (fun i k hk => by
      obtain ⟨rfl, hi⟩ := range_at hk
      have q1 : atI (acc.map newD) (k : Int) = some (newD acc[k]) := by
        rw [atI_nat (by simpa using hi), List.getElem?_map, List.getElem?_eq_getElem hi]; rfl
      have q2 := at_row (row := acc) hi
      exact .inl (by simp [l2_d_law, q1, q2, is_new_ap, newD]))
  have hr := rangeD1_nat (n := acc.length) (by have := ha; simp at this; omega)
  refine law_run rfl ?_
  simp only [List.map_cons, List.map_nil] at h1
  simp [env0, b_d_law, hc0, hc1, hrow, hdawn, he, et, hz, hm, h1, h2, hr, named_ap, other_ap htx]
theorem facts {P : Program} {w : World} {K : PySem.W.Frag} {h : Heap} {mg : Str → Option Value} {f : Addr} (X : K.In h) (G : h.Ns mainGlobals mg) (hfa : mg ("law" : Str) = some (.ref f)) (cx : VI.SaysX file fa fn us xs ys K) (pg : VI.PgOk P file) :
    ∃ fd : FuncData, (∀ (s : Shared) (v : Value), BindsTo s fd ⟨[v], []⟩ [("_law_script", v)]) ∧ ∀ base : Heap, K.In base → base.Ns mainGlobals mg → FnOk P w K mg base CX0 6 f fd ["_law_script"] (SpF K (cl K) [] 1 f_d_law) := by
  have c := cx.u
  obtain ⟨fd, F⟩ := c.def_ 14 (d := x_d_law) rfl
  have e := hfa.symm.trans (He.glo_ok X G (c.fact 49 (f := .glo "law") rfl))
  cases e
  have b := FunD.bindsA (ps := ["_law_script"]) F fun _ _ _ _ _ _ us hl => match us, hl with | [_], _ => rfl
  refine ⟨fd, fun s v => b s [v] rfl, fun base _ _ => ?_⟩
  obtain ⟨fd2, F2, ok⟩ := ok_d_law (P := P) (w := w) (base := base) X G cx pg
  have e2 : fd = fd2 := FunD_uniq F F2
  rw [e2]; exact ok
end Lk17
open PySem PySem.W PySem.Calls PyProof.Rows
theorem PySem.Challenge.cw_fogbeacons_k17_dawn_range_holds : PySem.Challenge.rw_fogbeacons_k17_dawn_range.Holds := by
  w_on; o_law
  refine HandSHeadRun.head_any (r := OpenLaw.row PySem.Challenge.rw_fogbeacons_k17_dawn_range) (q := view (OpenLaw.row PySem.Challenge.rw_fogbeacons_k17_dawn_range).prog [29]) (H := Lk17.hk) (ob := Lk17.ob) (M := 20000) (loose := Lk17.loose) (d := HandSHeadRun.topDef (OpenLaw.row PySem.Challenge.rw_fogbeacons_k17_dawn_range).prog 29) (kwd := []) Lk17.ob_eq
    (by kernel_rfl) (fun s => by kernel_rfl) Lk17.run (by kernel_rfl) (by kernel_rfl) (by kernel_rfl) (by rfl) (by first | assumption | decide +kernel) (by decide +kernel) ⟨rfl, rfl, rfl, rfl, rfl, by decide +kernel⟩ ?hw ?hc
  case hw => w_witness2
  case hc =>
    refine L2.walk_ofE (l := PySem.Challenge.rw_fogbeacons_k17_dawn_range) (n := 63) (k := 6) (x := "_law_script") (CX := L2.CX0) rfl (by decide) (by kernel_rfl) ⟨rfl, by decide, by decide⟩ ?F (fun _ _ _ _ z => z)
    intro w mg fa h Y G hmg0
    obtain ⟨K, KX, c⟩ := Y
    have hmg : mg ("law" : PySem.Str) = some (.ref fa) := by
      have e : (HandSHeadRun.topDef (OpenLaw.row PySem.Challenge.rw_fogbeacons_k17_dawn_range).prog 29).name = ("law" : PySem.Str) := by kernel_rfl
      rw [← e]
      exact hmg0
    obtain ⟨fd, hb, hF⟩ := Lk17.facts (P := (PySem.Challenge.rw_fogbeacons_k17_dawn_range).prog) (w := w) KX G hmg c ⟨by kernel_rfl, by kernel_rfl⟩
    refine ⟨K, fd, VI.SpF K (Lk17.cl K) [] 1 Lk17.f_d_law, KX, hb, fun H a ns hl _ hS => ?_, hF⟩
    exact VI.sp_law (VI.TabC.no (by simp [Lk17.cl])) hS (Lk17.pure_law ns hl)