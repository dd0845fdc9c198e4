import PyProof.Rows.All
import Wide.All
import OpenK.AllK
import Wide.FinOn
import HandS.HeadEnd
import HandS.HeadHook4
import HandS.HeadNt
import HandS.Head2
import HandS.ForSpec
import HandS.ForMost
import HandS.IsInst
import HandS.Deep
import HandS.Wide
import HandS.TupAny
import HandS.Zip
import HandS.Style
import HandS.Words
import HandS.Lambda
import HandS.ExcInit
import HandS.RaiseMore
import HandS.SortInts
import HandS.Walk
import KE.GoesMore
import KE.GoesEnum
import HandS.TupMul
import PyProof.ReprRoads
import PyProof.Rows.IntBool
import KE.SortData
import KE.DataMinMax
import HandS.Conv
import PyProof.Rows.MatchSeqLen
import PyProof.RulesMatchSeq
import HandS.Dict
import KE.LtData
import KE.DataCmp
import PyProof.FactsAll.dict
import PyProof.NeData
import HandS.TryOnly
import PyProof.StrOps2
import HandS.SetKeys
import HandS.Star
import PyProof.AssignAttr
import HandS.TupLen
import HandS.SetFor
import HandS.Strs
import KE.KDictPairs
import KE.KDictSum
import KE.KDictCopyH
import PyProof.TupleOfSeq
import KE.KTupSum
import KE.KExcSuper
import HandS.ExcField
import HandS.ExcIs
import HandS.ExcOwn
import HandS.Small
import HandS.TryMany
import HandS.Nested
import HandS.WordsExc
import HandS.ExcCtx
import KE.KIsAll
import KE.KTryMore
import OpenK.KMeth
import OpenK.KOps
import KE.KOpsOwn
import KE.KCallOwn
import KE.KFmtOwn
import HandS.Property
import HandS.FStr
import PyProof.Rows.Range3
import HandS.Flt
import HandS.GenList
import PyProof.GenRules
import PyProof.GenComp
import HandS.EndTab
import HandS.Defaults
import HandS.ClsMeth
import PyProof.SliceStr2
import HandS.HotCalls
import HandS.SuiteRaise
import HandS.Finally
import HandS.ExcInitHot
import HandS.NestedHot
import KE.KIndexOf
import KE.KIndexWalk
import HandS.More
import KE.KOwnIter
import HandS.IterVal
import KE.KDictZip
import HandS.OwnIter
import HandS.ExcValue
import PyProof.StrLawsRepr
import PySem.Challenge.RW_twobricks_k01_errors_and_bounds
set_option Elab.async false
set_option linter.all false
set_option maxRecDepth 100000
set_option maxHeartbeats 4000000
namespace DL
open PySem PySem.Spec PyProof.Rows L2
structure DefF where
  at_ : PySem.W.Frag → Addr
  name : Str
  qual : Str
  st : Stmt
  free : List Str := []
abbrev FnC : Type := Option (Str × Str × Arguments × FuncBody × Scope × Addr × List Str × Addr)
def fnO (K : PySem.W.Frag) (a : Addr) : FnC := match K.lookup a with
  | some ⟨_, _, .func fd, _⟩ => some (fd.name, fd.qualname, fd.params, fd.body, fd.scope, fd.globals, fd.closure.map Prod.fst, fd.builtins)
  | _ => none
def DefF.val (d : DefF) : FnC := some (d.name, d.qual, defArgs d.st, .stmts (defBody d.st), defScope d.st, mainGlobals, d.free, builtinsNs)
def isNo : Value → Bool
  | .none => true
  | _ => false
theorem isNo_ok {v : Value} (h : isNo v = true) : v = .none := by
  cases v <;> first | rfl | cases h
def DefF.ok (K : PySem.W.Frag) (d : DefF) : Bool := PySem.W.keepIn K (.ref (d.at_ K)) && (match K.lookup (d.at_ K) with
  | some ⟨_, _, .func fd, _⟩ => PySem.W.codeIn K fd.code d.qual && (isNo fd.defaults && (d.free.isEmpty || isNo fd.kwdefaults))
  | _ => false)
theorem DefF.get {K : PySem.W.Frag} {d : DefF} (e : fnO K (d.at_ K) = d.val) (c : d.ok K = true) :
    ∃ oc od kV dc pm an cd ct sl cl, K.lookup (d.at_ K) = some ⟨oc, od, .func (PySem.W.fnX d.name d.qual (defArgs d.st) (defBody d.st) (defScope d.st) cl .none kV dc pm an cd ct), sl⟩ ∧ cl.map Prod.fst = d.free ∧ PySem.W.codeIn K cd d.qual = true ∧ PySem.W.keepIn K (.ref (d.at_ K)) = true ∧ (d.free.isEmpty = false → kV = .none) := by
  obtain ⟨kp, c2⟩ := He.ba c
  unfold fnO at e
  cases q : K.lookup (d.at_ K) with
  | none =>
    rw [q] at c2
    cases c2
  | some o =>
    obtain ⟨oc, od, dt, osl⟩ := o
    rw [q] at c2 e
    cases dt with
    | func fd =>
      obtain ⟨n1, n2, n3, n4, n5, n6, n7, n8, n9, n10, n11, n12, n13, n14, n15⟩ := fd
      have e2 : (some (n1, n2, n3, n4, n5, n6, n7.map Prod.fst, n15) : FnC) = some (d.name, d.qual, defArgs d.st, .stmts (defBody d.st), defScope d.st, mainGlobals, d.free, builtinsNs) := e
      simp only [Option.some.injEq, Prod.mk.injEq] at e2
      obtain ⟨h1, h2, h3, h4, h5, h6, h7, h8⟩ := e2
      subst h1 h2 h3 h4 h5 h6 h8
      have c3 : (PySem.W.codeIn K n13 d.qual && (isNo n8 && (d.free.isEmpty || isNo n9))) = true := c2
      obtain ⟨k1, k2⟩ := He.ba c3
      obtain ⟨k3, k4⟩ := He.ba k2
      obtain rfl := isNo_ok k3
      refine ⟨oc, od, n9, n10, n11, n12, n13, n14, osl, n7, rfl, h7, k1, kp, fun hf => ?_⟩
      rw [hf, Bool.false_or] at k4
      exact isNo_ok k4
    | _ => cases c2
theorem DefF.fn {K : PySem.W.Frag} {d : DefF} (e : fnO K (d.at_ K) = d.val) (c : d.ok K = true) (h : d.free = []) : ∃ fd, Fun K d.name d.qual d.st (d.at_ K) fd := by
  obtain ⟨oc, od, kV, dc, pm, an, cd, ct, sl, cl, l, hc, k1, k2, _⟩ := DefF.get e c
  rw [h] at hc
  obtain rfl := List.map_eq_nil_iff.mp hc
  exact ⟨_, ⟨oc, od, kV, dc, pm, an, cd, ct, sl, rfl, l, k1⟩, k2⟩
abbrev Ask : Type := PySem.W.Frag → Bool
structure Told (fn : List DefF) (ex : List Ask) (tf : List He.Defn) (h : Heap) (K : PySem.W.Frag) : Prop where
  d : ∀ (i : Nat) (d : DefF), fn[i]? = some d → fnO K (d.at_ K) = d.val ∧ d.ok K = true
  x : ∀ (i : Nat) (f : Ask), ex[i]? = some f → f K = true
  hd : ∀ p ∈ tf, PySem.W.codeHdIn K (He.cT K p).1 (He.cT K p).2 = true
  out : ∀ p ∈ tf, K.lookup (He.cT K p).2 = none
  empty : ∀ p ∈ tf, h.get? (He.cT K p).2 = some { cls := .none, data := .fields #[] }
theorem Told.fn {fn : List DefF} {ex : List Ask} {tf : List He.Defn} {h : Heap} {K : PySem.W.Frag} (c : Told fn ex tf h K) (i : Nat) {d : DefF} (e : fn[i]? = some d) (hf : d.free = []) : ∃ fd, Fun K d.name d.qual d.st (d.at_ K) fd := DefF.fn (c.d i d e).1 (c.d i d e).2 hf
abbrev fragN (N : Nat) (g : Addr → Option Obj) : PySem.W.Frag := He.frT g (List.range N)
def obsF (N : Nat) (fn : List DefF) (ex : List Ask) (tf : List He.Defn) (g : Addr → Option Obj) : Bool × List FnC :=
  ((ex.all fun f => f (fragN N g)) && ((fn.all fun d => d.ok (fragN N g)) && He.tabsB g tf (fragN N g)), fn.map fun d => fnO (fragN N g) (d.at_ (fragN N g)))
theorem told_of {N : Nat} {fn : List DefF} {ex : List Ask} {tf : List He.Defn} {h : Heap} (e : obsF N fn ex tf h.get? = (true, fn.map DefF.val)) : Told fn ex tf h (fragN N h.get?) := by
  have e1 := congrArg (fun z : Bool × List FnC => z.1) e
  have e2 : (fn.map fun d => fnO (fragN N h.get?) (d.at_ (fragN N h.get?))) = fn.map DefF.val := congrArg (fun z : Bool × List FnC => z.2) e
  obtain ⟨h1, h2⟩ := He.ba (show ((ex.all fun f => f (fragN N h.get?)) && ((fn.all fun d => d.ok (fragN N h.get?)) && He.tabsB h.get? tf (fragN N h.get?))) = true from e1)
  obtain ⟨h2, h3⟩ := He.ba h2
  have key : ∀ p ∈ tf, PySem.W.codeHdIn (fragN N h.get?) (He.cT (fragN N h.get?) p).1 (He.cT (fragN N h.get?) p).2 = true ∧ ∃ o, h.get? (He.cT (fragN N h.get?) p).2 = some o ∧ He.emptyTab o = true := fun p hp => by
    obtain ⟨h4, h5⟩ := He.ba (List.all_eq_true.mp h3 p hp)
    refine ⟨h4, ?_⟩
    cases q : h.get? (He.cT (fragN N h.get?) p).2 with
    | none =>
      rw [q] at h5
      cases h5
    | some o =>
      rw [q] at h5
      exact ⟨o, rfl, h5⟩
  refine ⟨fun i d hi => ⟨?_, List.all_eq_true.mp h2 d (List.mem_of_getElem? hi)⟩, fun i f hi => List.all_eq_true.mp h1 f (List.mem_of_getElem? hi), fun p hp => (key p hp).1, fun p hp => ?_, fun p hp => ?_⟩
  · have e3 : (fn.map fun d => fnO (fragN N h.get?) (d.at_ (fragN N h.get?)))[i]? = (fn.map DefF.val)[i]? := by rw [e2]
    rw [List.getElem?_map, List.getElem?_map, hi] at e3
    exact Option.some.inj e3
  · obtain ⟨_, o, q, z⟩ := key p hp
    exact He.frT_none q z
  · obtain ⟨_, o, q, z⟩ := key p hp
    rw [q, He.emptyTab_eq z]
def hookF (N : Nat) (fn : List DefF) (ex : List Ask) (tf : List He.Defn) : PySem.W.Hook where
  α := Bool × List FnC
  obs := fun s => obsF N fn ex tf s.heap.get?
  val := fun _ => (true, fn.map DefF.val)
  says := fun _ h => ∃ K : PySem.W.Frag, K.In h ∧ Told fn ex tf h K
  of := fun _ _ e => ⟨_, He.frT_in, told_of e⟩
  keeps := fun _ _ _ ⟨K, hK, c⟩ k => ⟨K, PySem.W.Frag.In.keeps hK k, ⟨c.d, c.x, c.hd, c.out, fun p hp => k _ _ (c.empty p hp)⟩⟩
theorem obsF_eq {N : Nat} {fn : List DefF} {ex : List Ask} {tf : List He.Defn} (s : PySem.W.SharedT) : obsF N fn ex tf (HandSHeadRun.getT s) = (hookF N fn ex tf).obs s.abs := by
  have e : HandSHeadRun.getT s = s.abs.heap.get? := funext (HandSHeadRun.getT_eq s)
  rw [e] <;> rfl
noncomputable abbrev endS (r : PySem.W.OpenRow) (M : Nat) (w : World) (os : OsState) : Option PySem.W.SharedT := HandSHeadRun.endF (HandSHeadRun.stepQ (HandSHeadRun.denQ HandSHeadRun.tabQ) r.prog w) M r.prog w os
theorem run_parts {r : PySem.W.OpenRow} {q : Program} {N M : Nat} {fn : List DefF} {ex : List Ask} {tf : List He.Defn} {loose : List Str} {w : World}
    (a : ∀ os, (endS r M w os).map (fun s => HandSHeadRun.looksF r.prog (PySem.W.boot_heap w.params) s.abs) = some true)
    (b : ∀ os, (endS r M w os).map (fun s => HandSHeadRun.seenQ q loose (importedModules r.prog.main.body) (fun s => PySem.W.xlAt q [] s && PySem.W.recOk r.toRowW.records s) s.abs) = some (PySem.W.openGood q loose))
    (c : ∀ os, (endS r M w os).map (fun s => ex.all fun f => f (fragN N (HandSHeadRun.getT s))) = some true)
    (d : ∀ os, (endS r M w os).map (fun s => ((fn.all fun d => d.ok (fragN N (HandSHeadRun.getT s))) && He.tabsB (HandSHeadRun.getT s) tf (fragN N (HandSHeadRun.getT s)), fn.map fun d => fnO (fragN N (HandSHeadRun.getT s)) (d.at_ (fragN N (HandSHeadRun.getT s))))) = some (true, fn.map DefF.val)) :
    HandSHeadRun.RunEq r q (hookF N fn ex tf) (fun s => obsF N fn ex tf (HandSHeadRun.getT s)) M loose w := fun os => by
  have a := a os
  have b := b os
  have c := c os
  have d := d os
  show (endS r M w os).map _ = _
  cases e : endS r M w os with
  | none =>
    rw [e] at a
    cases a
  | some s =>
    rw [e] at a b c d
    have a1 := Option.some.inj a
    have b1 := Option.some.inj b
    have c1 := Option.some.inj c
    have d1 := Option.some.inj d
    have d2 := congrArg Prod.fst d1
    have d3 := congrArg Prod.snd d1
    refine congrArg some (Prod.ext a1 (Prod.ext b1 (Prod.ext ?_ d3)))
    show ((ex.all fun f => f (fragN N (HandSHeadRun.getT s))) && ((fn.all fun d => d.ok (fragN N (HandSHeadRun.getT s))) && He.tabsB (HandSHeadRun.getT s) tf (fragN N (HandSHeadRun.getT s)))) = true
    exact Bool.and_eq_true_iff.mpr ⟨c1, d2⟩
def clsT (s : Stmt) (j : Nat) : Stmt := match s with
  | .ClassDef _ _ _ body .. => body.getD j s
  | _ => s
section
variable {r : PySem.W.OpenRow} {N M : Nat} {w : World}
def RunC (r : PySem.W.OpenRow) (N M : Nat) (w : World) (ex : List Ask) : Prop := ∀ os, (endS r M w os).map (fun s => ex.all fun f => f (fragN N (HandSHeadRun.getT s))) = some true
def RunD (r : PySem.W.OpenRow) (N M : Nat) (w : World) (fn : List DefF) : Prop := ∀ os, (endS r M w os).map (fun s => ((fn.all fun d => d.ok (fragN N (HandSHeadRun.getT s))), fn.map fun d => fnO (fragN N (HandSHeadRun.getT s)) (d.at_ (fragN N (HandSHeadRun.getT s))))) = some (true, fn.map DefF.val)
def RunA (r : PySem.W.OpenRow) (N M : Nat) (w : World) (tf : List He.Defn) : Prop := ∀ os, (endS r M w os).map (fun s => (HandSHeadRun.looksF r.prog (PySem.W.boot_heap w.params) s.abs, He.tabsB (HandSHeadRun.getT s) tf (fragN N (HandSHeadRun.getT s)))) = some (true, true)
theorem RunC.app {X Y : List Ask} (a : RunC r N M w X) (b : RunC r N M w Y) : RunC r N M w (X ++ Y) := fun os => by
  have a := a os
  have b := b os
  cases e : endS r M w os with
  | none =>
    rw [e] at a
    cases a
  | some s =>
    rw [e] at a b
    refine congrArg some ?_
    show ((X ++ Y).all fun f => f (fragN N (HandSHeadRun.getT s))) = true
    rw [List.all_append]
    exact Bool.and_eq_true_iff.mpr ⟨Option.some.inj a, Option.some.inj b⟩
theorem RunD.app {X Y : List DefF} (a : RunD r N M w X) (b : RunD r N M w Y) : RunD r N M w (X ++ Y) := fun os => by
  have a := a os
  have b := b os
  cases e : endS r M w os with
  | none =>
    rw [e] at a
    cases a
  | some s =>
    rw [e] at a b
    have a1 := Option.some.inj a
    have b1 := Option.some.inj b
    refine congrArg some (Prod.ext ?_ ?_)
    · show (X ++ Y).all _ = true
      rw [List.all_append]
      exact Bool.and_eq_true_iff.mpr ⟨congrArg Prod.fst a1, congrArg Prod.fst b1⟩
    · show (X ++ Y).map _ = (X ++ Y).map _
      rw [List.map_append, List.map_append]
      exact congr (congrArg _ (congrArg Prod.snd a1)) (congrArg Prod.snd b1)
theorem run_all {q : Program} {fn : List DefF} {ex : List Ask} {tf : List He.Defn} {loose : List Str} (a : RunA r N M w tf)
    (b : ∀ os, (endS r M w os).map (fun s => HandSHeadRun.seenQ q loose (importedModules r.prog.main.body) (fun s => PySem.W.xlAt q [] s && PySem.W.recOk r.toRowW.records s) s.abs) = some (PySem.W.openGood q loose))
    (c : RunC r N M w ex) (d : RunD r N M w fn) : HandSHeadRun.RunEq r q (hookF N fn ex tf) (fun s => obsF N fn ex tf (HandSHeadRun.getT s)) M loose w := by
  refine run_parts (fun os => ?_) b c fun os => ?_
  · have a := a os
    cases e : endS r M w os with
    | none =>
      rw [e] at a
      cases a
    | some s =>
      rw [e] at a
      exact congrArg some (congrArg Prod.fst (Option.some.inj a))
  · have a := a os
    have d := d os
    cases e : endS r M w os with
    | none =>
      rw [e] at a
      cases a
    | some s =>
      rw [e] at a d
      have d1 := Option.some.inj d
      have d2 : (fn.map fun d => fnO (fragN N (HandSHeadRun.getT s)) (d.at_ (fragN N (HandSHeadRun.getT s)))) = fn.map DefF.val := congrArg Prod.snd d1
      refine congrArg some (Prod.ext (Bool.and_eq_true_iff.mpr ⟨congrArg Prod.fst d1, congrArg Prod.snd (Option.some.inj a)⟩) ?_)
      exact d2
end
def aG (x : Str) : Ask := fun K => He.eqO (PySem.W.nsIn K mainGlobals x) (some (some (.ref (He.ga K x))))
def aZ (x : Str) : Ask := fun K => He.eqO (PySem.W.nsIn K mainGlobals x) (some none)
def aI (x : Str) (i : Int) : Ask := fun K => (He.Fa.int x i).ok K
def exLB (K : PySem.W.Frag) (C : Addr) (n : Str) : Bool := match K.lookup C with
  | some ⟨.type "type", _, .cls cd, sl⟩ => (match cd.mro, sl.toList with
    | .ref C' :: bm, [_, _, _, _, some (.builtin nid), _] => C' == C && (nid == "ValueError.__new__" && (!cd.hasDel && (cd.hasDict && (PySem.HandSPX.refsVE bm && decide (cd.name = n)))))
    | _, _ => false)
  | _ => false
def aCF (n : Str) : Ask := fun K => exLB K (He.ga K n) n &&
  (He.eqO (PySem.W.findIn K (.ref (He.ga K n)) "__setattr__") (some (some (.builtin "object.__setattr__"))) && (decide (PySem.W.subIn K (.ref (He.ga K n)) (.type "BaseException") = some true) && (decide (PySem.W.typeIn K (.ref (He.ga K n)) = some (.type "type")) && (PySem.W.keepIn K (.ref (He.ga K n)) &&
  (He.eqO (PySem.W.findIn K (.ref (He.ga K n)) "__getattribute__") (some (some (.builtin "BaseException.__getattribute__"))) && (He.eqO (PySem.W.findIn K (.ref (He.ga K n)) "__getattr__") (some none) && (PySem.W.hasDictIn K (He.ga K n) &&
  (He.eqO (PySem.W.findIn K (.ref (He.ga K n)) "__class__") (some (some (.builtin "object.__class__"))) && (He.eqO (PySem.W.specialIn K (.builtin "object.__class__") "__get__") (some (some (.builtin "getset_descriptor.__get__"))) && (decide (PySem.W.takesIn K (.builtin "object.__class__") = some true) &&
  decide (PySem.W.mroIn K (He.ga K n) (.type "object") = some true)))))))))))
def aX0 (n : Str) : Ask := fun K => PySem.W.excIn K (He.ga K n) [.type "ValueError", .type "Exception", .type "BaseException", .type "object"] "ValueError.__new__"
def xCo (K : PySem.W.Frag) (fI : Addr) (C : Addr) (file : Str) : Bool := match K.lookup fI with
  | some ⟨_, _, .func fd, _⟩ => (match fd.code, fd.closure with
    | .ref cda, [(_, cc)] => (match K.lookup cda with
      | some ⟨_, _, .fields cvs, _⟩ => (match (cvs[2]? : Option Value) with
        | some (.str f _) => decide (file = f)
        | _ => false)
      | _ => false) && (match K.lookup cc with
      | some ⟨_, _, .cell (some (.ref D)), _⟩ => D == C
      | _ => false)
    | _, _ => false)
  | _ => false
def aX (n : Str) (fs : List Str) (file : Str) : Ask := fun K => (PySem.W.clsIn K (He.ga K n)).isSome && (decide (PySem.W.mroIn K (He.ga K n) (.ref (He.ga K n)) = some true) && (He.eqO (PySem.W.nsIn K cStatics "thirdparty.any") (some none) &&
  (He.eqO (PySem.W.ks_superIn K (He.ga K n) (He.ga K n) "__init__") (some (some (.builtin "ValueError.__init__"))) && (decide (PySem.W.subIn K (.ref (He.ga K n)) (.type "ValueError") = some true) && (He.eqO (PySem.W.findIn K (.ref (He.ga K n)) "__init__") (some (some (.ref (He.ma K (He.ga K n) "__init__")))) &&
  (decide (PySem.W.typeIn K (.ref (He.ma K (He.ga K n) "__init__")) = some (.type "function")) && (He.eqO (PySem.W.nsIn K mainGlobals "super") (some none) && ((fs.all fun f => He.eqO (PySem.W.findIn K (.ref (He.ga K n)) f) (some none)) && xCo K (He.ma K (He.ga K n) "__init__") (He.ga K n) file))))))))
end DL
set_option Elab.async false
set_option linter.all false
set_option maxRecDepth 100000
set_option maxHeartbeats 4000000
namespace DL
open PySem PySem.Spec PyProof.Rows L2

class Tb where
  T : List (Addr × Str)
instance (priority := low) tb0 : Tb := ⟨[]⟩
def markI : Int := 2 ^ 2000
abbrev objD (n : Str) (fs : List (Str × PyData)) : PyData := .dict ((.int markI, .str n) :: fs.map fun p => (.str p.1, p.2))
structure ObjK (K : PySem.W.Frag) (n : Str) (C : Addr) : Prop where
  at_ : PySem.W.nsIn K mainGlobals n = some (some (.ref C))
  ty : ∀ T ∈ ["int", "bool", "str", "tuple", "list", "dict"], PySem.W.kitOne K (.ref C) (.type T) = some false
  cl : Cls K C
  ha : PySem.W.findIn K (.ref C) "__class__" = some (some (.builtin "object.__class__"))
  hn : PySem.W.specialIn K (.builtin "object.__class__") "__get__" = some (some (.builtin "getset_descriptor.__get__"))
  tk : PySem.W.takesIn K (.builtin "object.__class__") = some true
  mr : PySem.W.mroIn K C (.type "object") = some true
def keyI (k : List Int) : List Key := k.map fun i => (Sum.inl i : Key)
abbrev dKD (kvs : List (Int × PyData)) : PyData := .dict ((.int markI, .bool false) :: kvs.map fun p => (.int p.1, p.2))
abbrev dTD (kvs : List (List Int × PyData)) : PyData := .dict ((.int markI, .bool true) :: kvs.map fun p => (.tuple (p.1.map PyData.int), p.2))
def numsV (xs : List V) : Bool := !xs.isEmpty && xs.all fun v => match v with | .int _ => true | _ => false
def tupH (o : Obj) (xs : List V) : HO := if numsV xs = true then .tup xs else .frz o (.tup xs)
def TupAt (G : Hp) (a : Addr) (xs : List V) : Prop := ∃ o : Obj, o.dict = none ∧ G a = some (tupH o xs)
theorem TupAt.mono {G H : Hp} {a : Addr} {xs : List V} (s : Same G H) (h : TupAt G a xs) : TupAt H a xs := by
  obtain ⟨o, d, e⟩ := h
  exact ⟨o, d, s _ _ e⟩
theorem TupAt.sq {K : PySem.W.Frag} {G : Hp} {a : Addr} {xs : List V} (h : TupAt G a xs) : SqT K G a xs := by
  obtain ⟨o, _, e⟩ := h
  unfold tupH at e
  split at e
  · exact SqT.of e
  · exact .inl (.inr ⟨o, e⟩)
theorem TupAt.key {G : Hp} {a : Addr} {xs : List V} (h : TupAt G a xs) (n : numsV xs = true) : G a = some (.tup xs) := by
  obtain ⟨o, _, e⟩ := h
  rwa [tupH, if_pos n] at e
theorem TupAt.obj {G : Hp} {a : Addr} {xs : List V} (h : TupAt G a xs) (n : numsV xs = false) : ∃ o : Obj, o.dict = none ∧ G a = some (.frz o (.tup xs)) := by
  obtain ⟨o, d, e⟩ := h
  rw [tupH, if_neg (by rw [n]; exact Bool.false_ne_true)] at e
  exact ⟨o, d, e⟩
theorem TupAt.two {G : Hp} {a : Addr} {xs : List V} (h : TupAt G a xs) : G a = some (.tup xs) ∨ ∃ o : Obj, o.dict = none ∧ G a = some (.frz o (.tup xs)) := by
  cases n : numsV xs with
  | true => exact .inl (h.key n)
  | false => exact .inr (h.obj n)
theorem tupH_tbl {o : Obj} {xs : List V} : ∀ ps, tupH o xs ≠ .tbl ps := fun ps => by
  unfold tupH
  split <;> exact fun z => (nomatch z)
theorem tupH_ok {P : Program} {w : World} {H : Hp} {h : Heap} {a : Addr} {o : Obj} {n : Nat} {xs : List V} {us : List Value} (e : h.get? a = some o) (c : o.cls = .type "tuple") (d : o.data = .seq us.toArray n) (z : xs.length ≤ sizeLine) (r : Vals xs us) : ObjOk P w H h a (tupH o xs) := by
  unfold tupH
  split
  · exact ⟨z, us, r, o, e, c, n, d⟩
  · exact ⟨e, z, us, r, o, e, c, n, d⟩
abbrev tupO (us : List Value) : Obj := { cls := .type "tuple", data := .seq us.toArray }
mutual
inductive Dn (K : PySem.W.Frag) (G : Hp) : V → PyData → Prop
  | non : Dn K G .non .none
  | bl (b : Bool) : Dn K G (.bl b) (.bool b)
  | int (i : Int) : Dn K G (.int i) (.int i)
  | str (x : Str) : Dn K G (.str x) (.str x)
  | lst {a : Addr} {xs : List V} {ds : List PyData} (h : G a = some (.lst xs)) (t : DnL K G xs ds) : Dn K G (.ref a) (.list ds)
  | tup {a : Addr} {xs : List V} {ds : List PyData} (h : TupAt G a xs) (t : DnL K G xs ds) : Dn K G (.ref a) (.tuple ds)
  | dic {a : Addr} (h : G a = some (.dK [])) (n : a ≠ sysModules) : Dn K G (.ref a) (.dict [])
  | ob {a C dx : Addr} {n : Str} {ws : List (Str × V)} {fs : List (Str × PyData)} (h : G a = some (.ins C dx ws)) (k : ObjK K n C) (e : ws.map (·.1) = fs.map (·.1)) (t : DnL K G (ws.map (·.2)) (fs.map (·.2))) : Dn K G (.ref a) (.dict ((.int markI, .str n) :: fs.map fun p => (.str p.1, p.2)))
  | fK {a : Addr} {o : Obj} {ws : List (Key × V)} {kvs : List (Int × PyData)} (h : G a = some (.frz o (.dK ws))) (e : ws.map (·.1) = kvs.map fun p => (Sum.inl p.1 : Key)) (t : DnL K G (ws.map (·.2)) (kvs.map (·.2))) : Dn K G (.ref a) (.dict ((.int markI, .bool false) :: kvs.map fun p => (.int p.1, p.2)))
  | fT {a : Addr} {o : Obj} {ws : List (List Key × V)} {kvs : List (List Int × PyData)} (h : G a = some (.frz o (.dT ws))) (e : ws.map (·.1) = kvs.map fun p => keyI p.1) (t : DnL K G (ws.map (·.2)) (kvs.map (·.2))) : Dn K G (.ref a) (.dict ((.int markI, .bool true) :: kvs.map fun p => (.tuple (p.1.map PyData.int), p.2)))
inductive DnL (K : PySem.W.Frag) (G : Hp) : List V → List PyData → Prop
  | nil : DnL K G [] []
  | cons {v : V} {vs : List V} {d : PyData} {ds : List PyData} (h : Dn K G v d) (t : DnL K G vs ds) : DnL K G (v :: vs) (d :: ds)
end
theorem sqT_mono {K : PySem.W.Frag} {G H : Hp} {a : Addr} {xs : List V} (s : Same G H) (h : SqT K G a xs) : SqT K H a xs := by
  rcases h with (h | ⟨o, h⟩) | h
  · exact .inl (.inl (s _ _ h))
  · exact .inl (.inr ⟨o, s _ _ h⟩)
  · exact .inr h
mutual
theorem Dn.mono' {K : PySem.W.Frag} {G H : Hp} (s : Same G H) : ∀ {v : V} {d : PyData}, Dn K G v d → Dn K H v d
  | _, _, .non => .non
  | _, _, .bl b => .bl b
  | _, _, .int i => .int i
  | _, _, .str x => .str x
  | _, _, .lst h t => .lst (s _ _ h) (DnL.mono' s t)
  | _, _, .tup h t => .tup (h.mono s) (DnL.mono' s t)
  | _, _, .dic h n => .dic (s _ _ h) n
  | _, _, .ob h k e t => .ob (s _ _ h) k e (DnL.mono' s t)
  | _, _, .fK h e t => .fK (s _ _ h) e (DnL.mono' s t)
  | _, _, .fT h e t => .fT (s _ _ h) e (DnL.mono' s t)
theorem DnL.mono' {K : PySem.W.Frag} {G H : Hp} (s : Same G H) : ∀ {vs : List V} {ds : List PyData}, DnL K G vs ds → DnL K H vs ds
  | _, _, .nil => .nil
  | _, _, .cons a b => .cons (Dn.mono' s a) (DnL.mono' s b)
end
theorem Dn.mono {K : PySem.W.Frag} {G H : Hp} (s : Same G H) {v : V} (d : PyData) (h : Dn K G v d) : Dn K H v d := Dn.mono' s h
theorem DnL.mono {K : PySem.W.Frag} {G H : Hp} (s : Same G H) {vs : List V} (ds : List PyData) (h : DnL K G vs ds) : DnL K H vs ds := DnL.mono' s h
section
variable {K : PySem.W.Frag} {G : Hp}
theorem DnL.len : ∀ {vs : List V} {ds : List PyData}, DnL K G vs ds → vs.length = ds.length
  | _, [], h => by cases h; rfl
  | _, d :: ds, h => by cases h with | cons a b => simp [DnL.len b]
theorem DnL.get : ∀ {vs : List V} {ds : List PyData} {i : Nat} {d : PyData}, DnL K G vs ds → ds[i]? = some d → ∃ v, vs[i]? = some v ∧ Dn K G v d
  | _, [], _, _, h, e => by simp at e
  | _, d :: ds, 0, _, h, e => by
    cases h with
    | cons a b => simp at e; subst e; exact ⟨_, rfl, a⟩
  | _, d :: ds, i + 1, x, h, e => by
    cases h with
    | cons a b =>
      obtain ⟨v, h1, h2⟩ := DnL.get (i := i) b (by simpa using e)
      exact ⟨v, by simpa using h1, h2⟩
theorem DnL.app : ∀ {vs ws : List V} {ds es : List PyData}, DnL K G vs ds → DnL K G ws es → DnL K G (vs ++ ws) (ds ++ es)
  | _, _, [], _, h, h2 => by cases h; exact h2
  | _, _, d :: ds, _, h, h2 => by cases h with | cons a b => exact .cons a (DnL.app b h2)
theorem DnL.take : ∀ {vs : List V} {ds : List PyData} (n : Nat), DnL K G vs ds → DnL K G (vs.take n) (ds.take n)
  | _, _, 0, _ => by simp; exact .nil
  | _, [], n + 1, h => by cases h; simp; exact .nil
  | _, d :: ds, n + 1, h => by cases h with | cons a b => exact .cons a (DnL.take n b)
theorem DnL.drop : ∀ {vs : List V} {ds : List PyData} (n : Nat), DnL K G vs ds → DnL K G (vs.drop n) (ds.drop n)
  | _, _, 0, h => by simpa using h
  | _, [], n + 1, h => by cases h; simp; exact .nil
  | _, d :: ds, n + 1, h => by cases h with | cons a b => exact DnL.drop n b
theorem DnL.set {v : V} {d : PyData} (h : Dn K G v d) : ∀ {vs : List V} {ds : List PyData} (i : Nat), DnL K G vs ds → DnL K G (vs.set i v) (ds.set i d)
  | _, [], _, t => by cases t; exact .nil
  | _, _ :: _, 0, t => by cases t with | cons a b => exact .cons h b
  | _, _ :: _, i + 1, t => by cases t with | cons a b => exact .cons a (DnL.set h i b)
theorem DnL.dropLast {vs : List V} {ds : List PyData} (h : DnL K G vs ds) : DnL K G vs.dropLast ds.dropLast := by
  rw [List.dropLast_eq_take, List.dropLast_eq_take, h.len]
  exact h.take _
theorem DnL.ints : ∀ (ns : List Int), DnL K G (ns.map V.int) (ns.map PyData.int)
  | [] => .nil
  | n :: ns => .cons (.int n) (DnL.ints ns)
theorem DnL.toInts : ∀ {vs : List V} {ns : List Int}, DnL K G vs (ns.map PyData.int) → vs = ns.map V.int
  | _, [], h => by cases h; rfl
  | _, n :: ns, h => by
    cases h with
    | cons a b => cases a; rw [DnL.toInts b]; rfl
end

def excD (n : Str) (fs : List (Str × PyData)) : PyData := .dict [(.str n, .dict (fs.map fun p => (.str p.1, p.2)))]
def ErrG (K : PySem.W.Frag) (G : Hp) (a : Addr) (x : PyData) : Prop := ∃ (n : Str) (C : Addr) (fs : List (Str × PyData)) (d : Option Addr), x = excD n fs ∧ PySem.W.nsIn K mainGlobals n = some (some (.ref C)) ∧ G a = some (exo a C d) ∧
  ((∃ (dd : Addr) (ws : List (Str × V)), d = some dd ∧ G dd = some (exd dd ws) ∧ ws.map (·.1) = fs.map (·.1) ∧ DnL K G (ws.map (·.2)) (fs.map (·.2))) ∨ (fs = [] ∧ d = none))
def ErrL (K : PySem.W.Frag) (G : Hp) : List V → List PyData → Prop
  | [], [] => True
  | v :: vs, x :: xs => (∃ a, v = .ref a ∧ ErrG K G a x) ∧ ErrL K G vs xs
  | _, _ => False
theorem ErrG.mono {K : PySem.W.Frag} {G G' : Hp} {a : Addr} {x : PyData} (s : Same G G') (h : ErrG K G a x) : ErrG K G' a x := by
  obtain ⟨n, C, fs, d, h1, h2, h3, h4⟩ := h
  refine ⟨n, C, fs, d, h1, h2, s _ _ h3, ?_⟩
  rcases h4 with ⟨dd, ws, q1, q2, q3, q4⟩ | q
  · exact .inl ⟨dd, ws, q1, s _ _ q2, q3, q4.mono s⟩
  · exact .inr q
theorem ErrL.mono {K : PySem.W.Frag} {G G' : Hp} (s : Same G G') : ∀ {vs : List V} {xs : List PyData}, ErrL K G vs xs → ErrL K G' vs xs
  | [], [], _ => trivial
  | _ :: _, _ :: _, ⟨⟨a, e, h⟩, t⟩ => ⟨⟨a, e, h.mono s⟩, ErrL.mono s t⟩
inductive GX where
  | oi (a : Addr) (kvs : List (Int × PyData))
  | og (a : Addr) (gs : List (Int × Addr × List PyData))
  | bu (a l : Addr) (n f : Str) (xs : List PyData)
  | b0 (a : Addr) (n : Str)
  | nm (a : Addr) (x : Str)
  | er (a : Addr) (x : PyData)
  | el (a : Addr) (xs : List PyData)
def GX.fp : GX → List Addr
  | .oi a _ => [a]
  | .og a gs => a :: gs.map (·.2.1)
  | .bu a l _ _ _ => [a, l]
  | .b0 a _ => [a]
  | .nm _ _ => []
  | .er _ _ => []
  | .el _ _ => []
def GX.hd : GX → Addr
  | .oi a _ => a
  | .og a _ => a
  | .bu a _ _ _ _ => a
  | .b0 a _ => a
  | .nm a _ => a
  | .er a _ => a
  | .el a _ => a
def GX.Ok (K : PySem.W.Frag) (G H : Hp) : GX → Prop
  | .oi a kvs => ∃ ws, H a = some (.dK ws) ∧ ws.map (·.1) = kvs.map (fun p => (Sum.inl p.1 : Key)) ∧ DnL K G (ws.map (·.2)) (kvs.map (·.2))
  | .og a gs => (a :: gs.map (·.2.1)).Nodup ∧ H a = some (.dK (gs.map fun g => ((Sum.inl g.1 : Key), V.ref g.2.1))) ∧ ∀ g ∈ gs, ∃ vs, H g.2.1 = some (.lst vs) ∧ DnL K G vs g.2.2
  | .bu a l n f xs => a ≠ l ∧ ∃ C dx vs, H a = some (.ins C dx [(f, .ref l)]) ∧ ObjK K n C ∧ H l = some (.lst vs) ∧ DnL K G vs xs
  | .b0 a n => ∃ C dx, H a = some (.ins C dx []) ∧ ObjK K n C
  | .nm a x => x = "" ∨ PySem.W.nsIn K mainGlobals x = some (some (.ref a))
  | .er a x => ErrG K G a x
  | .el a xs => ∃ vs, G a = some (.lst vs) ∧ ErrL K G vs xs
inductive Cell where
  | em
  | d (x : PyData)
  | ol (a : Addr) (xs : List PyData)
  | dk (a b c : Addr)
  | scr (a : Addr) (ns : List Int)
  | dx (a b c : Addr) (xs : List Int) (n : Int) (ys : List Int)
  | od (a : Addr) (kvs : List (List Int × PyData))
  | xc (a : Addr) (cls : Value) (d : Option Addr) (x : PyData)
  | ob (a : Addr) (n : Str) (fs : List (Str × PyData))
  | fv (a : Addr) (m : Hp)
  | gx (t : GX)
def Cell.fp : Cell → List Addr
  | .ol a _ => [a]
  | .dk a b c => [a, b, c]
  | .dx a b c _ _ _ => [a, b, c]
  | .od a _ => [a]
  | .ob a _ _ => [a]
  | .gx t => t.fp
  | _ => []
def DnK (K : PySem.W.Frag) (G : Hp) (ws : List (List Key × V)) (kvs : List (List Int × PyData)) : Prop := ws.map (·.1) = kvs.map (fun p => keyI p.1) ∧ DnL K G (ws.map (·.2)) (kvs.map (·.2))
def DeckOk (H : Hp) (a b c : Addr) : Prop := a ≠ b ∧ a ≠ c ∧ b ≠ c ∧ ∃ (n : Int) (xs ys : List Int), H a = some (.lst [.ref b, .ref c, .int n]) ∧ H b = some (.lst (xs.map V.int)) ∧ H c = some (.lst (ys.map V.int)) ∧ ys ≠ [] ∧ ∀ x ∈ xs, 0 ≤ x
def ExcAt (K : PySem.W.Frag) (G : Hp) (cls : Value) (d : Option Addr) (x : PyData) : Prop := ∃ (n : Str) (C : Addr) (fs : List (Str × PyData)), x = excD n fs ∧ cls = .ref C ∧ (PySem.W.clsIn K C).map (·.name) = some n ∧
  ((∃ (dd : Addr) (ws : List (Str × V)), d = some dd ∧ G dd = some (.xd ws) ∧ ws.map (·.1) = fs.map (·.1) ∧ DnL K G (ws.map (·.2)) (fs.map (·.2))) ∨ (fs = [] ∧ d = none))
theorem ExcAt.mono {K : PySem.W.Frag} {G G' : Hp} {cls : Value} {d : Option Addr} {x : PyData} (s : Same G G') (h : ExcAt K G cls d x) : ExcAt K G' cls d x := by
  obtain ⟨n, C, fs, h1, h2, h3, h4⟩ := h
  refine ⟨n, C, fs, h1, h2, h3, ?_⟩
  rcases h4 with ⟨dd, ws, q1, q2, q3, q4⟩ | q
  · exact .inl ⟨dd, ws, q1, s _ _ q2, q3, q4.mono s⟩
  · exact .inr q
def CellOk (K : PySem.W.Frag) (G H : Hp) : Cell → Option V → Prop
  | .em, _ => True
  | .d x, o => ∃ v, o = some v ∧ Dn K G v x
  | .ol a xs, o => o = some (.ref a) ∧ ∃ vs, H a = some (.lst vs) ∧ DnL K G vs xs
  | .dk a b c, o => o = some (.ref a) ∧ DeckOk H a b c
  | .scr a ns, o => o = some (.ref a) ∧ SqL K G a (ns.map V.int)
  | .od a kvs, o => o = some (.ref a) ∧ ∃ ws, H a = some (.dT ws) ∧ DnK K G ws kvs
  | .xc a cls d x, o => o = some (.ref a) ∧ ExcAt K G cls d x
  | .ob a n fs, o => o = some (.ref a) ∧ ∃ C dx ws, H a = some (.ins C dx ws) ∧ ObjK K n C ∧ ws.map (·.1) = fs.map (·.1) ∧ DnL K G (ws.map (·.2)) (fs.map (·.2))
  | .fv a m, o => o = some (.ref a) ∧ Same m G
  | .gx t, o => o = some (.ref t.hd) ∧ t.Ok K G H
  | .dx a b c xs n ys, o => o = some (.ref a) ∧ a ≠ b ∧ a ≠ c ∧ b ≠ c ∧ H a = some (.lst [.ref b, .ref c, .int n]) ∧ H b = some (.lst (xs.map V.int)) ∧ H c = some (.lst (ys.map V.int))

abbrev DS := List Cell
def notTE (x : HO) : Prop := (∀ ps, x ≠ .tbl ps) ∧ (∀ f, x ≠ .ext f) ∧ ∀ xs, x ≠ .tup xs
theorem notTE_lst {xs : List V} : notTE (.lst xs) := ⟨fun _ z => (nomatch z), fun _ z => (nomatch z), fun _ z => (nomatch z)⟩
theorem tabs_upd {T : List (Addr × Str)} {H : Hp} {p : Addr} {o : HO} (h : LamX.Tabs T H) (hp : ∀ x, H p = some x → notTE x) : LamX.Tabs T (upd H p o) := fun q hq => by
  obtain ⟨ps, h1, h2, h3⟩ := h q hq
  refine ⟨ps, ?_, h2, fun pos cv hc => ?_⟩
  · rw [upd_ne (fun z => (hp _ (by rw [← z]; exact h1)).1 ps rfl)]; exact h1
  · obtain ⟨c, e1, e2⟩ := h3 pos cv hc
    exact ⟨c, e1, by rw [upd_ne (fun z => (hp _ (by rw [← z]; exact e2)).2.1 _ rfl)]; exact e2⟩
theorem tabs_new {T : List (Addr × Str)} {H : Hp} {p : Addr} {o : HO} (h : LamX.Tabs T H) (hp : H p = none) : LamX.Tabs T (upd H p o) := tabs_upd h fun x e => by rw [hp] at e; cases e
structure NT (B G : Hp) : Prop where
  b : ∀ a o, B a = some o → notTE o
  g : ∀ a o, G a = some o → ∀ ps, o ≠ .tbl ps
variable [Tb]
structure TbOk (B G H : Hp) : Prop where
  t : LamX.Tabs Tb.T H
  n : NT B G
structure Rel (K : PySem.W.Frag) (B G : Hp) (δ : DS) (σ : L2.St) (H : Hp) : Prop where
  len : σ.length = δ.length
  sg : Same G H
  sb : Same B H
  dj : ∀ a, G a = none ∨ B a = none
  ok : ∀ (i : Nat) (c : Cell) (o : Option V), δ[i]? = some c → σ[i]? = some o → CellOk K G H c o
  ap : ∀ (i j : Nat) (c c' : Cell) (a : Addr), δ[i]? = some c → δ[j]? = some c' → a ∈ c.fp → a ∈ c'.fp → i = j
  fr : ∀ (i : Nat) (c : Cell) (a : Addr), δ[i]? = some c → a ∈ c.fp → G a = none ∧ B a = none
  tt : TbOk B G H

omit [Tb] in
theorem NT.updG {B G : Hp} {p : Addr} {o : HO} (n : NT B G) (h : ∀ ps, o ≠ .tbl ps) : NT B (upd G p o) := ⟨n.b, fun a x e => by
  by_cases q : a = p
  · subst q; rw [upd_same] at e; cases e; exact h
  · rw [upd_ne q] at e; exact n.g a x e⟩
omit [Tb] in
theorem NT.updB {B G : Hp} {p : Addr} {o : HO} (n : NT B G) (h : notTE o) : NT (upd B p o) G := ⟨fun a x e => by
  by_cases q : a = p
  · subst q; rw [upd_same] at e; cases e; exact h
  · rw [upd_ne q] at e; exact n.b a x e, n.g⟩
omit [Tb] in
theorem NT.lessB {B B0 G : Hp} (n : NT B G) (h : ∀ a o, B0 a = some o → B a = some o) : NT B0 G := ⟨fun a x e => n.b a x (h a x e), n.g⟩
section
variable {K : PySem.W.Frag} {B G G' H H' : Hp} {δ : DS} {σ : L2.St} {p a : Addr} {o : HO} {i : Nat} {c : Cell}
theorem same_new (h : H p = none) : Same H (upd H p o) := fun b x e => by
  rw [upd_ne (ne_of_none e h)]; exact e
theorem Rel.at (R : Rel K B G δ σ H) (h : δ[i]? = some c) : ∃ o, σ[i]? = some o ∧ CellOk K G H c o := by
  have hi : i < δ.length := (List.getElem?_eq_some_iff.mp h).1
  have hs : i < σ.length := by rw [R.len]; exact hi
  exact ⟨σ[i], List.getElem?_eq_getElem hs, R.ok i c _ h (List.getElem?_eq_getElem hs)⟩
theorem GX.tr {t : GX} (ok : t.Ok K G H) (hp : p ∈ t.fp) : ∃ o, H p = some o ∧ (∀ ps, o ≠ .tbl ps) ∧ (∀ f, o ≠ .ext f) ∧ ∀ xs, o ≠ .tup xs := by
  cases t with
  | oi a kvs =>
    obtain ⟨ws, e, _⟩ := ok
    rw [List.mem_singleton.mp hp]
    exact ⟨_, e, fun _ z => (nomatch z), fun _ z => (nomatch z), fun _ z => (nomatch z)⟩
  | og a gs =>
    obtain ⟨_, e, h⟩ := ok
    rcases List.mem_cons.mp hp with rfl | hp
    · exact ⟨_, e, fun _ z => (nomatch z), fun _ z => (nomatch z), fun _ z => (nomatch z)⟩
    · obtain ⟨g, hg, rfl⟩ := List.mem_map.mp hp
      obtain ⟨vs, e2, _⟩ := h g hg
      exact ⟨_, e2, fun _ z => (nomatch z), fun _ z => (nomatch z), fun _ z => (nomatch z)⟩
  | bu a l n f xs =>
    obtain ⟨_, C, dx, vs, e, _, e2, _⟩ := ok
    rcases List.mem_cons.mp hp with rfl | hp
    · exact ⟨_, e, fun _ z => (nomatch z), fun _ z => (nomatch z), fun _ z => (nomatch z)⟩
    · rw [List.mem_singleton.mp hp]
      exact ⟨_, e2, fun _ z => (nomatch z), fun _ z => (nomatch z), fun _ z => (nomatch z)⟩
  | b0 a n =>
    obtain ⟨C, dx, e, _⟩ := ok
    rw [List.mem_singleton.mp hp]
    exact ⟨_, e, fun _ z => (nomatch z), fun _ z => (nomatch z), fun _ z => (nomatch z)⟩
  | nm a x => cases hp
  | er a x => cases hp
  | el a xs => cases hp
theorem GX.stay {t : GX} (ok : t.Ok K G H) (sg : Same G G') (hk : ∀ b ∈ t.fp, H' b = H b) : t.Ok K G' H' := by
  cases t with
  | oi a kvs =>
    obtain ⟨ws, e, k, d⟩ := ok
    exact ⟨ws, by rw [hk a (by simp [GX.fp])]; exact e, k, d.mono sg⟩
  | og a gs =>
    obtain ⟨n, e, h⟩ := ok
    refine ⟨n, by rw [hk a (by simp [GX.fp])]; exact e, fun g hg => ?_⟩
    obtain ⟨vs, e2, d⟩ := h g hg
    exact ⟨vs, by rw [hk _ (List.mem_cons_of_mem _ (List.mem_map.mpr ⟨g, hg, rfl⟩))]; exact e2, d.mono sg⟩
  | bu a l n f xs =>
    obtain ⟨n1, C, dx, vs, e, k, e2, d⟩ := ok
    exact ⟨n1, C, dx, vs, by rw [hk a (by simp [GX.fp])]; exact e, k, by rw [hk l (by simp [GX.fp])]; exact e2, d.mono sg⟩
  | b0 a n =>
    obtain ⟨C, dx, e, k⟩ := ok
    exact ⟨C, dx, by rw [hk a (by simp [GX.fp])]; exact e, k⟩
  | nm a x => exact ok
  | er a x => exact ErrG.mono sg ok
  | el a xs =>
    obtain ⟨vs, e, h⟩ := ok
    exact ⟨vs, sg _ _ e, h.mono sg⟩
theorem cell_tracked (ok : CellOk K G H c (some (.ref a))) (hc : p ∈ c.fp) : ∃ o, H p = some o := by
  cases c with
  | em => cases hc
  | d x => cases hc
  | ol a xs =>
    obtain ⟨_, vs, e, _⟩ := ok
    rw [List.mem_singleton.mp hc]; exact ⟨_, e⟩
  | dk a b c =>
    obtain ⟨_, _, _, _, n, xs, ys, e1, e2, e3, _⟩ := ok
    simp only [Cell.fp, List.mem_cons, List.not_mem_nil, or_false] at hc
    rcases hc with rfl | rfl | rfl
    · exact ⟨_, e1⟩
    · exact ⟨_, e2⟩
    · exact ⟨_, e3⟩
  | scr a ns => cases hc
  | xc a cls d x => cases hc
  | fv a m => cases hc
  | gx t => obtain ⟨o, e, _⟩ := GX.tr ok.2 hc; exact ⟨o, e⟩
  | ob a n fs =>
    obtain ⟨_, C, dx, ws, e, _⟩ := ok
    rw [List.mem_singleton.mp hc]; exact ⟨_, e⟩
  | od a kvs =>
    obtain ⟨_, ws, e, _⟩ := ok
    rw [List.mem_singleton.mp hc]; exact ⟨_, e⟩
  | dx a b c xs n ys =>
    obtain ⟨_, _, _, _, e1, e2, e3⟩ := ok
    simp only [Cell.fp, List.mem_cons, List.not_mem_nil, or_false] at hc
    rcases hc with rfl | rfl | rfl
    · exact ⟨_, e1⟩
    · exact ⟨_, e2⟩
    · exact ⟨_, e3⟩
theorem cell_tr {o : Option V} (ok : CellOk K G H c o) (hc : p ∈ c.fp) : ∃ o, H p = some o := by
  cases c with
  | em => cases hc
  | d x => cases hc
  | ol a xs => exact cell_tracked (a := a) (by obtain ⟨e, r⟩ := ok; exact ⟨rfl, r⟩) hc
  | dk a b c => exact cell_tracked (K := K) (G := G) (a := a) (by obtain ⟨e, r⟩ := ok; exact ⟨rfl, r⟩) hc
  | scr a ns => cases hc
  | xc a cls d x => cases hc
  | fv a m => cases hc
  | gx t => obtain ⟨o, e, _⟩ := GX.tr ok.2 hc; exact ⟨o, e⟩
  | ob a n fs => exact cell_tracked (K := K) (G := G) (a := a) (by obtain ⟨e, r⟩ := ok; exact ⟨rfl, r⟩) hc
  | od a kvs => exact cell_tracked (K := K) (G := G) (a := a) (by obtain ⟨e, r⟩ := ok; exact ⟨rfl, r⟩) hc
  | dx a b c xs n ys => exact cell_tracked (K := K) (G := G) (a := a) (by obtain ⟨e, r⟩ := ok; exact ⟨rfl, r⟩) hc
theorem notTE_dT {ws : List (List Key × V)} : notTE (.dT ws) := ⟨fun _ z => (nomatch z), fun _ z => (nomatch z), fun _ z => (nomatch z)⟩
theorem notTE_ins {C dx : Addr} {ws : List (Str × V)} : notTE (.ins C dx ws) := ⟨fun _ z => (nomatch z), fun _ z => (nomatch z), fun _ z => (nomatch z)⟩
theorem cell_te {c : Cell} {p : Addr} {o : Option V} (ok : CellOk K G H c o) (hc : p ∈ c.fp) : ∀ x, H p = some x → notTE x := by
  have one : ∀ {y : HO}, H p = some y → notTE y → ∀ x, H p = some x → notTE x := fun {y} e h x e2 => by
    rw [e] at e2
    cases e2
    exact h
  cases c with
  | em => cases hc
  | d x => cases hc
  | ol a xs =>
    obtain ⟨_, vs, e, _⟩ := ok
    rw [List.mem_singleton.mp hc] at one ⊢
    exact one e notTE_lst
  | dk a b c =>
    obtain ⟨_, _, _, _, n, xs, ys, e1, e2, e3, _⟩ := ok
    simp only [Cell.fp, List.mem_cons, List.not_mem_nil, or_false] at hc
    rcases hc with rfl | rfl | rfl
    · exact one e1 notTE_lst
    · exact one e2 notTE_lst
    · exact one e3 notTE_lst
  | scr a ns => cases hc
  | xc a cls d x => cases hc
  | fv a m => cases hc
  | gx t => obtain ⟨o, e, n1, n2⟩ := GX.tr ok.2 hc; exact one e ⟨n1, n2⟩
  | ob a n fs =>
    obtain ⟨_, C, dx, ws, e, _⟩ := ok
    rw [List.mem_singleton.mp hc] at one ⊢
    exact one e notTE_ins
  | od a kvs =>
    obtain ⟨_, ws, e, _⟩ := ok
    rw [List.mem_singleton.mp hc] at one ⊢
    exact one e notTE_dT
  | dx a b c xs n ys =>
    obtain ⟨_, _, _, _, e1, e2, e3⟩ := ok
    simp only [Cell.fp, List.mem_cons, List.not_mem_nil, or_false] at hc
    rcases hc with rfl | rfl | rfl
    · exact one e1 notTE_lst
    · exact one e2 notTE_lst
    · exact one e3 notTE_lst
theorem CellOk.stay {o : Option V} (ok : CellOk K G H c o) (sg : Same G G') (hk : ∀ b ∈ c.fp, H' b = H b) : CellOk K G' H' c o := by
  cases c with
  | em => trivial
  | d x => obtain ⟨v, e, h⟩ := ok; exact ⟨v, e, h.mono sg⟩
  | ol a xs =>
    obtain ⟨e, vs, h, t⟩ := ok
    exact ⟨e, vs, by rw [hk a (by simp [Cell.fp])]; exact h, t.mono sg⟩
  | dk a b c =>
    obtain ⟨e, h1, h2, h3, n, xs, ys, e1, e2, e3, r⟩ := ok
    exact ⟨e, h1, h2, h3, n, xs, ys, by rw [hk a (by simp [Cell.fp])]; exact e1, by rw [hk b (by simp [Cell.fp])]; exact e2, by rw [hk c (by simp [Cell.fp])]; exact e3, r⟩
  | scr a ns => exact ⟨ok.1, sg.seq ok.2⟩
  | fv a m => exact ⟨ok.1, ok.2.trans sg⟩
  | gx t => exact ⟨ok.1, GX.stay ok.2 sg hk⟩
  | xc a cls d x => exact ⟨ok.1, ok.2.mono sg⟩
  | ob a n fs =>
    obtain ⟨e, C, dx, ws, h, k, e2, t⟩ := ok
    exact ⟨e, C, dx, ws, by rw [hk a (by simp [Cell.fp])]; exact h, k, e2, t.mono sg⟩
  | od a kvs =>
    obtain ⟨e, ws, h, t1, t2⟩ := ok
    exact ⟨e, ws, by rw [hk a (by simp [Cell.fp])]; exact h, t1, t2.mono sg⟩
  | dx a b c xs n ys =>
    obtain ⟨e, h1, h2, h3, e1, e2, e3⟩ := ok
    exact ⟨e, h1, h2, h3, by rw [hk a (by simp [Cell.fp])]; exact e1, by rw [hk b (by simp [Cell.fp])]; exact e2, by rw [hk c (by simp [Cell.fp])]; exact e3⟩
theorem Rel.tr (R : Rel K B G δ σ H) (h : δ[i]? = some c) (hc : p ∈ c.fp) : ∃ o, H p = some o := by
  obtain ⟨o, _, ok⟩ := R.at h
  exact cell_tr ok hc
theorem Rel.freeG (R : Rel K B G δ σ H) (h : H p = none) : G p = none := R.sg.free h
theorem Rel.freeB (R : Rel K B G δ σ H) (h : H p = none) : B p = none := R.sb.free h
theorem Rel.laid (R : Rel K B G δ σ H) (h : H p = none) (nt : ∀ ps, o ≠ .tbl ps := by exact fun _ z => (nomatch z)) : Rel K B (upd G p o) δ σ (upd H p o) ∧ Same G (upd G p o) := by
  have sG : Same G (upd G p o) := same_new (R.freeG h)
  refine ⟨⟨R.len, fun b x e => ?_, R.sb.trans (same_new h), fun b => ?_, fun i c w e1 e2 => ?_, R.ap, fun i c b e hb => ?_, ⟨tabs_new R.tt.t h, R.tt.n.updG nt⟩⟩, sG⟩
  · by_cases hb : b = p
    · subst hb; rw [upd_same] at e ⊢; exact e
    · rw [upd_ne hb] at e ⊢; exact R.sg _ _ e
  · by_cases hb : b = p
    · subst hb; exact .inr (R.freeB h)
    · rw [upd_ne hb]; exact R.dj b
  · refine (R.ok i c w e1 e2).stay sG fun b hb => ?_
    obtain ⟨x, ex⟩ := R.tr e1 hb
    exact upd_ne (ne_of_none ex h)
  · obtain ⟨x, ex⟩ := R.tr e hb
    obtain ⟨f1, f2⟩ := R.fr i c b e hb
    exact ⟨by rw [upd_ne (ne_of_none ex h)]; exact f1, f2⟩
theorem Rel.laidT (R : Rel K B G δ σ H) (h : H p = none) {o : Obj} {xs : List V} (hd : o.dict = none) : Rel K B (upd G p (tupH o xs)) δ σ (upd H p (tupH o xs)) ∧ Same G (upd G p (tupH o xs)) ∧ TupAt (upd G p (tupH o xs)) p xs := by
  obtain ⟨r, s⟩ := R.laid h tupH_tbl
  exact ⟨r, s, o, hd, upd_same⟩
theorem Rel.grow (R : Rel K B G δ σ H) (h : H p = none) : Rel K B G δ σ (upd H p o) := by
  refine ⟨R.len, R.sg.trans (same_new h), R.sb.trans (same_new h), R.dj, fun i c w e1 e2 => ?_, R.ap, R.fr, ⟨tabs_new R.tt.t h, R.tt.n⟩⟩
  refine (R.ok i c w e1 e2).stay (Same.refl _) fun b hb => ?_
  obtain ⟨x, ex⟩ := R.tr e1 hb
  exact upd_ne (ne_of_none ex h)
theorem Rel.growB (R : Rel K B G δ σ H) (h : H p = none) (nt : notTE o := by exact ⟨fun _ z => (nomatch z), fun _ z => (nomatch z), fun _ z => (nomatch z)⟩) : Rel K (upd B p o) G δ σ (upd H p o) := by
  refine ⟨R.len, R.sg.trans (same_new h), fun b x e => ?_, fun b => ?_, fun i c w e1 e2 => ?_, R.ap, fun i c b e hb => ?_, ⟨tabs_new R.tt.t h, R.tt.n.updB nt⟩⟩
  · by_cases hb : b = p
    · subst hb; rw [upd_same] at e ⊢; exact e
    · rw [upd_ne hb] at e ⊢; exact R.sb _ _ e
  · by_cases hb : b = p
    · subst hb; exact .inl (R.freeG h)
    · rw [upd_ne hb]; exact R.dj b
  · refine (R.ok i c w e1 e2).stay (Same.refl _) fun b hb => ?_
    obtain ⟨x, ex⟩ := R.tr e1 hb
    exact upd_ne (ne_of_none ex h)
  · obtain ⟨x, ex⟩ := R.tr e hb
    obtain ⟨f1, f2⟩ := R.fr i c b e hb
    exact ⟨f1, by rw [upd_ne (ne_of_none ex h)]; exact f2⟩
theorem Rel.putB (R : Rel K B G δ σ H) {u : HO} (h : B p = some u) (hu : notTE u) (nt : notTE o := by exact ⟨fun _ z => (nomatch z), fun _ z => (nomatch z), fun _ z => (nomatch z)⟩) : Rel K (upd B p o) G δ σ (upd H p o) := by
  have gp : G p = none := by
    rcases R.dj p with e | e
    · exact e
    · rw [h] at e; cases e
  refine ⟨R.len, fun b x e => ?_, fun b x e => ?_, fun b => ?_, fun i c w e1 e2 => ?_, R.ap, fun i c b e hb => ?_, ⟨tabs_upd R.tt.t fun x e => by rw [R.sb _ _ h] at e; cases e; exact hu, R.tt.n.updB nt⟩⟩
  · have hb : b ≠ p := fun z => by rw [z, gp] at e; cases e
    rw [upd_ne hb]; exact R.sg _ _ e
  · by_cases hb : b = p
    · subst hb; rw [upd_same] at e ⊢; exact e
    · rw [upd_ne hb] at e ⊢; exact R.sb _ _ e
  · by_cases hb : b = p
    · subst hb; exact .inl gp
    · rw [upd_ne hb]; exact R.dj b
  · refine (R.ok i c w e1 e2).stay (Same.refl _) fun b hb => upd_ne fun z => ?_
    have := (R.fr i c b e1 hb).2
    rw [z, h] at this; cases this
  · obtain ⟨f1, f2⟩ := R.fr i c b e hb
    refine ⟨f1, ?_⟩
    rw [upd_ne (fun z => by rw [z, h] at f2; cases f2)]; exact f2
theorem Rel.takeB (R : Rel K B G δ σ H) {B0 : Hp} (h0 : B0 p = none) (hs : ∀ b, b ≠ p → B0 b = B b) {u : HO} (h : B p = some u) : Rel K B0 (upd G p u) δ σ H ∧ Same G (upd G p u) := by
  have gp : G p = none := by
    rcases R.dj p with e | e
    · exact e
    · rw [h] at e; cases e
  have sG : Same G (upd G p u) := same_new gp
  refine ⟨⟨R.len, fun b x e => ?_, fun b x e => ?_, fun b => ?_, fun i c w e1 e2 => (R.ok i c w e1 e2).stay sG fun _ _ => rfl, R.ap, fun i c b e hb => ?_, ⟨R.tt.t, (R.tt.n.lessB fun b o e => by
    have hb : b ≠ p := fun z => by rw [z, h0] at e; cases e
    rw [hs b hb] at e; exact e).updG (R.tt.n.b _ _ h).1⟩⟩, sG⟩
  · by_cases hb : b = p
    · subst hb; rw [upd_same] at e; cases e; exact R.sb _ _ h
    · rw [upd_ne hb] at e; exact R.sg _ _ e
  · have hb : b ≠ p := fun z => by rw [z, h0] at e; cases e
    rw [hs b hb] at e; exact R.sb _ _ e
  · by_cases hb : b = p
    · subst hb; exact .inr h0
    · rw [upd_ne hb, hs b hb]; exact R.dj b
  · obtain ⟨f1, f2⟩ := R.fr i c b e hb
    have hbp : b ≠ p := fun z => by rw [z, h] at f2; cases f2
    exact ⟨by rw [upd_ne hbp]; exact f1, by rw [hs b hbp]; exact f2⟩
theorem Rel.set {v : V} (R : Rel K B G δ σ H) (ok : CellOk K G H c (some v)) (hn : ∀ a ∈ c.fp, (G a = none ∧ B a = none) ∧ ∀ j c', j ≠ i → δ[j]? = some c' → a ∉ c'.fp) : Rel K B G (δ.set i c) (σ.set i (some v)) H := by
  have get : ∀ {j : Nat} {x : Cell}, (δ.set i c)[j]? = some x → (j = i ∧ x = c) ∨ (j ≠ i ∧ δ[j]? = some x) := fun {j x} e => by
    by_cases hj : j = i
    · subst hj
      rw [List.getElem?_set] at e
      simp only [if_true] at e
      split at e
      · cases e; exact .inl ⟨rfl, rfl⟩
      · cases e
    · rw [List.getElem?_set_ne (Ne.symm hj)] at e; exact .inr ⟨hj, e⟩
  refine ⟨by simp [R.len], R.sg, R.sb, R.dj, fun j x w e1 e2 => ?_, fun j k x y a e1 e2 m1 m2 => ?_, fun j x a e m => ?_, R.tt⟩
  · rcases get e1 with ⟨rfl, rfl⟩ | ⟨hj, e1⟩
    · rw [List.getElem?_set] at e2
      simp only [if_true] at e2
      split at e2
      · cases e2; exact ok
      · cases e2
    · rw [List.getElem?_set_ne (Ne.symm hj)] at e2
      exact R.ok j x w e1 e2
  · rcases get e1 with ⟨h1, h1'⟩ | ⟨h1, e3⟩
    · rcases get e2 with ⟨h2, h2'⟩ | ⟨h2, e4⟩
      · rw [h1, h2]
      · rw [h1'] at m1; exact absurd m2 ((hn a m1).2 k y h2 e4)
    · rcases get e2 with ⟨h2, h2'⟩ | ⟨h2, e4⟩
      · rw [h2'] at m2; exact absurd m1 ((hn a m2).2 j x h1 e3)
      · exact R.ap j k x y a e3 e4 m1 m2
  · rcases get e with ⟨_, rfl⟩ | ⟨_, e⟩
    · exact (hn a m).1
    · exact R.fr j x a e m
theorem Rel.setD {v : V} {x : PyData} (R : Rel K B G δ σ H) (h : Dn K G v x) : Rel K B G (δ.set i (.d x)) (σ.set i (some v)) H :=
  R.set ⟨v, rfl, h⟩ fun a m => by cases m
theorem Rel.clear (R : Rel K B G δ σ H) (o : Option V) : Rel K B G (δ.set i .em) (σ.set i o) H := by
  have get : ∀ {j : Nat} {x : Cell}, (δ.set i .em)[j]? = some x → x = .em ∨ (j ≠ i ∧ δ[j]? = some x) := fun {j x} e => by
    by_cases hj : j = i
    · subst hj
      rw [List.getElem?_set] at e
      simp only [if_true] at e
      split at e
      · cases e; exact .inl rfl
      · cases e
    · rw [List.getElem?_set_ne (Ne.symm hj)] at e; exact .inr ⟨hj, e⟩
  refine ⟨by simp [R.len], R.sg, R.sb, R.dj, fun j x w e1 e2 => ?_, fun j k x y a e1 e2 m1 m2 => ?_, fun j x a e m => ?_, R.tt⟩
  · rcases get e1 with rfl | ⟨hj, e1⟩
    · trivial
    · rw [List.getElem?_set_ne (Ne.symm hj)] at e2
      exact R.ok j x w e1 e2
  · rcases get e1 with rfl | ⟨h1, e1⟩
    · cases m1
    · rcases get e2 with rfl | ⟨h2, e2⟩
      · cases m2
      · exact R.ap j k x y a e1 e2 m1 m2
  · rcases get e with rfl | ⟨_, e⟩
    · cases m
    · exact R.fr j x a e m
theorem Rel.recell {o : Option V} (R : Rel K B G δ σ H) (hσ : σ[i]? = some o) (ok : CellOk K G H c o) (hn : ∀ a ∈ c.fp, (G a = none ∧ B a = none) ∧ ∀ j c', j ≠ i → δ[j]? = some c' → a ∉ c'.fp) : Rel K B G (δ.set i c) σ H := by
  have hi : i < σ.length := (List.getElem?_eq_some_iff.mp hσ).1
  cases o with
  | some v =>
    have := R.set (i := i) (v := v) ok hn
    have e : σ.set i (some v) = σ := by
      apply List.ext_getElem?
      intro j
      by_cases hj : j = i
      · subst hj; rw [List.getElem?_set_self hi, hσ]
      · rw [List.getElem?_set_ne (Ne.symm hj)]
    rw [e] at this; exact this
  | none =>
    cases c with
    | em =>
      have := R.clear (i := i) none
      have e : σ.set i none = σ := by
        apply List.ext_getElem?
        intro j
        by_cases hj : j = i
        · subst hj; rw [List.getElem?_set_self hi, hσ]
        · rw [List.getElem?_set_ne (Ne.symm hj)]
      rw [e] at this; exact this
    | d x => obtain ⟨v, e, _⟩ := ok; cases e
    | ol a xs => obtain ⟨e, _⟩ := ok; cases e
    | dk a b c => obtain ⟨e, _⟩ := ok; cases e
    | scr a ns => obtain ⟨e, _⟩ := ok; cases e
    | xc a cls d x => obtain ⟨e, _⟩ := ok; cases e
    | ob a n fs => obtain ⟨e, _⟩ := ok; cases e
    | fv a m => obtain ⟨e, _⟩ := ok; cases e
    | gx t => obtain ⟨e, _⟩ := ok; cases e
    | od a kvs => obtain ⟨e, _⟩ := ok; cases e
    | dx a b c xs n ys => obtain ⟨e, _⟩ := ok; cases e
theorem Rel.freeze {xs : List PyData} (R : Rel K B G δ σ H) (h : δ[i]? = some (.ol a xs)) :
    ∃ vs, H a = some (.lst vs) ∧ DnL K G vs xs ∧ σ[i]? = some (some (.ref a)) ∧ Same G (upd G a (.lst vs)) ∧ Rel K B (upd G a (.lst vs)) (δ.set i (.d (.list xs))) σ H ∧ Dn K (upd G a (.lst vs)) (.ref a) (.list xs) := by
  obtain ⟨o, hσ, rfl, vs, e, t⟩ := R.at h
  obtain ⟨ga, ba⟩ := R.fr i _ a h (by simp [Cell.fp])
  have sG : Same G (upd G a (.lst vs)) := same_new ga
  have dn : Dn K (upd G a (.lst vs)) (.ref a) (.list xs) := .lst upd_same (t.mono sG)
  have hi : i < δ.length := (List.getElem?_eq_some_iff.mp h).1
  have get : ∀ {j : Nat} {x : Cell}, (δ.set i (.d (.list xs)))[j]? = some x → (j = i ∧ x = .d (.list xs)) ∨ (j ≠ i ∧ δ[j]? = some x) := fun {j x} e => by
    by_cases hj : j = i
    · subst hj
      rw [List.getElem?_set_self hi] at e; cases e; exact .inl ⟨rfl, rfl⟩
    · rw [List.getElem?_set_ne (Ne.symm hj)] at e; exact .inr ⟨hj, e⟩
  refine ⟨vs, e, t, hσ, sG, ⟨by simp [R.len], fun b x q => ?_, R.sb, fun b => ?_, fun j x w e1 e2 => ?_, fun j k x y z e1 e2 m1 m2 => ?_, fun j x z e1 m => ?_, ⟨R.tt.t, R.tt.n.updG fun _ z => (nomatch z)⟩⟩, dn⟩
  · by_cases hb : b = a
    · subst hb; rw [upd_same] at q; cases q; exact e
    · rw [upd_ne hb] at q; exact R.sg _ _ q
  · by_cases hb : b = a
    · subst hb; exact .inr ba
    · rw [upd_ne hb]; exact R.dj b
  · rcases get e1 with ⟨rfl, rfl⟩ | ⟨hj, e1⟩
    · rw [hσ] at e2; cases e2; exact ⟨_, rfl, dn⟩
    · exact (R.ok j x w e1 e2).stay sG fun _ _ => rfl
  · rcases get e1 with ⟨_, rfl⟩ | ⟨h1, e1⟩
    · cases m1
    · rcases get e2 with ⟨_, rfl⟩ | ⟨h2, e2⟩
      · cases m2
      · exact R.ap j k x y z e1 e2 m1 m2
  · rcases get e1 with ⟨_, rfl⟩ | ⟨hj, e1⟩
    · cases m
    · obtain ⟨f1, f2⟩ := R.fr j x z e1 m
      refine ⟨?_, f2⟩
      rw [upd_ne (fun q => ?_)]
      · exact f1
      · subst q
        exact hj (R.ap j i x _ z e1 h m (by simp [Cell.fp]))
theorem Rel.write {xs ys : List PyData} {ws : List V} (R : Rel K B G δ σ H) (h : δ[i]? = some (.ol a xs)) (t' : DnL K G ws ys) : Rel K B G (δ.set i (.ol a ys)) σ (upd H a (.lst ws)) := by
  obtain ⟨o, hσ, rfl, vs, e, t⟩ := R.at h
  obtain ⟨ga, ba⟩ := R.fr i _ a h (by simp [Cell.fp])
  have hi : i < δ.length := (List.getElem?_eq_some_iff.mp h).1
  have get : ∀ {j : Nat} {x : Cell}, (δ.set i (.ol a ys))[j]? = some x → (j = i ∧ x = .ol a ys) ∨ (j ≠ i ∧ δ[j]? = some x) := fun {j x} e => by
    by_cases hj : j = i
    · subst hj
      rw [List.getElem?_set_self hi] at e; cases e; exact .inl ⟨rfl, rfl⟩
    · rw [List.getElem?_set_ne (Ne.symm hj)] at e; exact .inr ⟨hj, e⟩
  refine ⟨by simp [R.len], fun b x q => ?_, fun b x q => ?_, R.dj, fun j x w e1 e2 => ?_, fun j k x y z e1 e2 m1 m2 => ?_, fun j x z e1 m => ?_, ⟨tabs_upd R.tt.t fun x e' => by rw [e] at e'; cases e'; exact notTE_lst, R.tt.n⟩⟩
  · rw [upd_ne (fun z => by rw [z, ga] at q; cases q)]; exact R.sg _ _ q
  · rw [upd_ne (fun z => by rw [z, ba] at q; cases q)]; exact R.sb _ _ q
  · rcases get e1 with ⟨rfl, rfl⟩ | ⟨hj, e1⟩
    · rw [hσ] at e2; cases e2; exact ⟨rfl, ws, upd_same, t'⟩
    · refine (R.ok j x w e1 e2).stay (Same.refl _) fun b hb => upd_ne fun q => ?_
      rw [q] at hb
      exact hj (R.ap j i x _ a e1 h hb (by simp [Cell.fp]))
  · rcases get e1 with ⟨h1, rfl⟩ | ⟨h1, e1⟩
    · rcases get e2 with ⟨h2, rfl⟩ | ⟨h2, e2⟩
      · rw [h1, h2]
      · exact h1.trans (R.ap i k _ y z h e2 (by simpa [Cell.fp] using m1) m2)
    · rcases get e2 with ⟨h2, rfl⟩ | ⟨h2, e2⟩
      · exact (R.ap j i x _ z e1 h m1 (by simpa [Cell.fp] using m2)).trans h2.symm
      · exact R.ap j k x y z e1 e2 m1 m2
  · rcases get e1 with ⟨_, rfl⟩ | ⟨hj, e1⟩
    · have : z = a := by simpa [Cell.fp] using m
      subst this; exact ⟨ga, ba⟩
    · exact R.fr j x z e1 m
end
end DL
set_option Elab.async false
set_option linter.all false
set_option maxRecDepth 100000
set_option maxHeartbeats 4000000
namespace DL
open PySem PySem.Spec PyProof.Rows L2
section
variable {X : Cx}
def NewT (H : Hp) (Q : VK) (xs : List V) : Prop := ∀ p o, o.dict = none → H p = none → Q (.ref p) (upd H p (tupH o xs))
theorem NewT.at {pins : List (Addr × Obj)} {σ : L2.St} {H : Hp} {s : Shared} {Q : VK} {xs : List V} {us : List Value} {k : Nat} (h : NewT H Q xs) (I : Inv X pins σ H s) (z : xs.length ≤ sizeLine) (r : Vals xs us) :
    ∃ (v : V) (H' : Hp), Inv X pins σ H' { s with heap := s.heap.push (tupO us), toks := k } ∧ RelV v (.ref s.heap.objs.size) ∧ Q v H' :=
  ⟨.ref s.heap.objs.size, _, I.laid (fun _ _ => Heap.get?_push_of_some _) (Nat.le_refl _) (tupH_ok (Heap.get?_push_size _ rfl) rfl rfl z r), rfl, h _ _ rfl (I.hok.fresh (Nat.le_refl _))⟩
def tTupC (t : TA) : TE := fun σ H Q => t σ H fun xs H1 => xs.length ≤ sizeLine ∧ NewT H1 Q xs
theorem pe_tupC {es : List Expr} {pos : Pos} {x1} {t : TA} (h : PA X es t) : PE X (.Tuple es x1 pos) (tTupC t) :=
  ⟨fun pins s σ H Q I hq => wpAny_Tuple_spliced (wpAny_mono (h.run pos pins s σ H _ I hq) (fun us s1 ⟨xs, H1, I1, r, z, q⟩ => ⟨by rw [← r.length]; exact z, q.at I1 z r⟩) fun _ _ z => z)⟩
def rCatC (K : PySem.W.Frag) : R2 := fun x y H Q => ∃ a b xs ys, x = .ref a ∧ y = .ref b ∧ SqT K H a xs ∧ SqT K H b ys ∧ xs.length + ys.length ≤ sizeLine ∧
  (xs = [] → Q (.ref b) H) ∧ (xs ≠ [] → ys = [] → Q (.ref a) H) ∧ (xs ≠ [] → ys ≠ [] → NewT H Q (xs ++ ys))
theorem op_catC : OpR X (binaryOp .Add) (rCatC X.K) := by
  rintro pins s σ H _ _ v u Q I rx ry ⟨a, b, xs, ys, rfl, rfl, ha, hb, hz, q0, q1, q2⟩
  by_cases hx : xs = []
  · exact op_catA pins s σ H _ _ v u Q I rx ry ⟨a, b, xs, ys, rfl, rfl, ha, hb, hz, q0, q1, fun n => absurd hx n⟩
  · cases rx; cases ry
    obtain ⟨its, r1, p1, _⟩ := I.tuple ha
    obtain ⟨its2, r2, p2, _⟩ := I.tuple hb
    have l1 := r1.length
    have l2 := r2.length
    exact HT.cat_tup p1 p2 (fun z => hx (r1.nil_iff.mp z)) (fun z => ⟨.ref a, H, I, rfl, q1 hx (r2.nil_iff.mp z)⟩)
      (fun z => (q2 hx fun w => z (r2.nil_iff.mpr w)).at (k := s.toks) I (by rw [List.length_append]; exact hz) (r1.append r2)) (by omega)
end
end DL
set_option Elab.async false
set_option linter.all false
set_option maxRecDepth 100000
set_option maxHeartbeats 4000000
namespace DL
open PySem PySem.Spec PyProof.Rows L2
variable [Tb]

inductive Opd where
  | d (x : PyData)
  | s (i : Nat)
def OpdOk (K : PySem.W.Frag) (G : Hp) (σ : L2.St) (v : V) : Opd → Prop
  | .d x => Dn K G v x
  | .s i => σ[i]? = some (some v)
inductive OpdsOk (K : PySem.W.Frag) (G : Hp) (σ : L2.St) : List V → List Opd → Prop
  | nil : OpdsOk K G σ [] []
  | cons {v : V} {vs : List V} {o : Opd} {os : List Opd} (h : OpdOk K G σ v o) (t : OpdsOk K G σ vs os) : OpdsOk K G σ (v :: vs) (o :: os)
def Bor (K : PySem.W.Frag) (G H : Hp) (v : V) (x : PyData) : Prop := Dn K G v x ∨ ∃ a vs xs, v = .ref a ∧ x = .list xs ∧ H a = some (.lst vs) ∧ DnL K G vs xs
def use (o : Opd) (δ : DS) (k : PyData → Prop) : Prop :=
  match o with
  | .d x => k x
  | .s i => match δ[i]? with
    | some (.d x) => k x
    | some (.ol _ xs) => k (.list xs)
    | _ => False
def lk (o : Opd) (δ : DS) (k : PyData → DS → Prop) : Prop :=
  match o with
  | .d x => k x δ
  | .s i => match δ[i]? with
    | some (.d x) => k x δ
    | some (.ol _ xs) => k (.list xs) (δ.set i (.d (.list xs)))
    | _ => False
def useL : List Opd → DS → (List PyData → Prop) → Prop
  | [], _, k => k []
  | o :: os, δ, k => use o δ fun x => useL os δ fun xs => k (x :: xs)
def lkL : List Opd → DS → (List PyData → DS → Prop) → Prop
  | [], δ, k => k [] δ
  | o :: os, δ, k => lk o δ fun x δ1 => lkL os δ1 fun xs δ2 => k (x :: xs) δ2
inductive BorL (K : PySem.W.Frag) (G H : Hp) : List V → List PyData → Prop
  | nil : BorL K G H [] []
  | cons {v : V} {vs : List V} {d : PyData} {ds : List PyData} (h : Bor K G H v d) (t : BorL K G H vs ds) : BorL K G H (v :: vs) (d :: ds)
section
variable {K : PySem.W.Frag} {B G G' H H' : Hp} {δ δ' : DS} {σ : L2.St} {v : V} {o : Opd} {x : PyData}
theorem OpdOk.mono (s : Same G G') (h : OpdOk K G σ v o) : OpdOk K G' σ v o := by
  cases o with
  | d x => exact Dn.mono s x h
  | s i => exact h
theorem OpdsOk.mono (s : Same G G') : ∀ {vs : List V} {os : List Opd}, OpdsOk K G σ vs os → OpdsOk K G' σ vs os
  | _, [], h => by cases h; exact .nil
  | _, o :: os, h => by cases h with | cons a b => exact .cons (a.mono s) (OpdsOk.mono s b)
theorem Bor.dn (R : Rel K B G δ σ H) (h : Bor K G H v x) : Dn K H v x := by
  rcases h with h | ⟨a, vs, xs, rfl, rfl, e, t⟩
  · exact h.mono R.sg
  · exact .lst e (t.mono R.sg)
theorem use_ok {k : PyData → Prop} (R : Rel K B G δ σ H) (ok : OpdOk K G σ v o) (h : use o δ k) : ∃ x, k x ∧ Bor K G H v x := by
  cases o with
  | d x => exact ⟨x, h, .inl ok⟩
  | s i =>
    have ok : σ[i]? = some (some v) := ok
    unfold use at h
    simp only at h
    cases e : δ[i]? with
    | none => rw [e] at h; exact h.elim
    | some c =>
      rw [e] at h
      obtain ⟨w, hw, co⟩ := R.at e
      rw [ok] at hw; cases hw
      cases c with
      | em => exact h.elim
      | dk a b c => exact h.elim
      | scr a ns => exact h.elim
      | xc a cls d x => exact h.elim
      | ob a n fs => exact h.elim
      | fv a m => exact h.elim
      | gx t => exact h.elim
      | od a kvs => exact h.elim
      | dx a b c xs n ys => exact h.elim
      | d x =>
        obtain ⟨v', e', q⟩ := co
        cases e'
        exact ⟨x, h, .inl q⟩
      | ol a xs =>
        obtain ⟨e', vs, q, t⟩ := co
        cases e'
        exact ⟨_, h, .inr ⟨a, vs, xs, rfl, rfl, q, t⟩⟩
theorem lk_ok {k : PyData → DS → Prop} (R : Rel K B G δ σ H) (ok : OpdOk K G σ v o) (h : lk o δ k) : ∃ G' δ' x, k x δ' ∧ Same G G' ∧ Rel K B G' δ' σ H ∧ Dn K G' v x := by
  cases o with
  | d x => exact ⟨G, δ, x, h, Same.refl _, R, ok⟩
  | s i =>
    have ok : σ[i]? = some (some v) := ok
    unfold lk at h
    simp only at h
    cases e : δ[i]? with
    | none => rw [e] at h; exact h.elim
    | some c =>
      rw [e] at h
      cases c with
      | em => exact h.elim
      | dk a b c => exact h.elim
      | scr a ns => exact h.elim
      | xc a cls d x => exact h.elim
      | ob a n fs => exact h.elim
      | fv a m => exact h.elim
      | gx t => exact h.elim
      | od a kvs => exact h.elim
      | dx a b c xs n ys => exact h.elim
      | d x =>
        obtain ⟨w, hw, co⟩ := R.at e
        rw [ok] at hw; cases hw
        obtain ⟨v', e', q⟩ := co
        cases e'
        exact ⟨G, δ, x, h, Same.refl _, R, q⟩
      | ol a xs =>
        obtain ⟨vs, q1, q2, q3, q4, q5, q6⟩ := R.freeze e
        rw [ok] at q3; cases q3
        exact ⟨_, _, _, h, q4, q5, q6⟩
theorem useL_ok (R : Rel K B G δ σ H) : ∀ {vs : List V} {os : List Opd} {k : List PyData → Prop}, OpdsOk K G σ vs os → useL os δ k → ∃ xs, k xs ∧ BorL K G H vs xs
  | _, [], _, h, q => by cases h; exact ⟨[], q, .nil⟩
  | _, o :: os, k, h, q => by
    cases h with
    | cons a b =>
      obtain ⟨x, q1, b1⟩ := use_ok R a q
      obtain ⟨xs, q2, b2⟩ := useL_ok R b q1
      exact ⟨x :: xs, q2, .cons b1 b2⟩
theorem lkL_ok : ∀ {vs : List V} {os : List Opd} {G : Hp} {δ : DS} {k : List PyData → DS → Prop}, Rel K B G δ σ H → OpdsOk K G σ vs os → lkL os δ k → ∃ G' δ' xs, k xs δ' ∧ Same G G' ∧ Rel K B G' δ' σ H ∧ DnL K G' vs xs
  | _, [], G, δ, _, R, h, q => by cases h; exact ⟨G, δ, [], q, Same.refl _, R, .nil⟩
  | _, o :: os, G, δ, k, R, h, q => by
    cases h with
    | cons a b =>
      obtain ⟨G1, δ1, x, q1, s1, R1, d1⟩ := lk_ok R a q
      obtain ⟨G2, δ2, xs, q2, s2, R2, d2⟩ := lkL_ok R1 (b.mono s1) q1
      exact ⟨G2, δ2, x :: xs, q2, s1.trans s2, R2, .cons (d1.mono s2) d2⟩
end

abbrev DE := DS → (Opd → DS → Prop) → Prop
abbrev DT := DS → (Bool → DS → Prop) → Prop
abbrev DA := DS → (List Opd → DS → Prop) → Prop
abbrev DL := DS → (List PyData → DS → Prop) → Prop
def up (K : PySem.W.Frag) (w : DE) : TE := fun σ H Q => ∃ B G δ R, Rel K B G δ σ H ∧ w δ R ∧ ∀ v H' G' o δ', R o δ' → Same G G' → Rel K B G' δ' σ H' → OpdOk K G' σ v o → Q v H'
def upT (K : PySem.W.Frag) (w : DT) : TT := fun σ H Q => ∃ B G δ R, Rel K B G δ σ H ∧ w δ R ∧ ∀ b H' G' δ', R b δ' → Same G G' → Rel K B G' δ' σ H' → Q b H'
def upA (K : PySem.W.Frag) (w : DA) : TA := fun σ H Q => ∃ B G δ R, Rel K B G δ σ H ∧ w δ R ∧ ∀ vs H' G' os δ', R os δ' → Same G G' → Rel K B G' δ' σ H' → OpdsOk K G' σ vs os → Q vs H'
def upL (K : PySem.W.Frag) (w : DL) : TE := fun σ H Q => ∃ B G δ R, Rel K B G δ σ H ∧ w δ R ∧ ∀ a vs H' G' xs δ', R xs δ' → Same G G' → Rel K (upd B a (.lst vs)) G' δ' σ H' → B a = none → DnL K G' vs xs → Q (.ref a) H'
abbrev JE (X : Cx) (e : Expr) (w : DE) : Prop := PE X e (up X.K w)
abbrev JT (X : Cx) (e : Expr) (w : DT) : Prop := PT X e (upT X.K w)
abbrev JW (X : Cx) (e : Expr) (w : DT) : Prop := PW X e (upT X.K w)
abbrev JA (X : Cx) (es : List Expr) (w : DA) : Prop := PA X es (upA X.K w)
abbrev JL (X : Cx) (e : Expr) (w : DL) : Prop := PE X e (upL X.K w)
section
variable {X : Cx} {e a b c : Expr} {es : List Expr} {pos : Pos}
theorem pe_le {t t' : TE} (h : PE X e t) (l : ∀ pins s σ H Q, Inv X pins σ H s → t' σ H Q → t σ H Q) : PE X e t' := ⟨fun pins s σ H Q I q => h.run pins s σ H Q I (l pins s σ H Q I q)⟩
theorem pt_le {t t' : TT} (h : PT X e t) (l : ∀ pins s σ H Q, Inv X pins σ H s → t' σ H Q → t σ H Q) : PT X e t' := ⟨fun pins s σ H Q I q => h.run pins s σ H Q I (l pins s σ H Q I q)⟩
theorem pw_le {t t' : TT} (h : PW X e t) (l : ∀ pins s σ H Q, Inv X pins σ H s → t' σ H Q → t σ H Q) : PW X e t' := ⟨fun wh pins s σ H Q I q => h.run wh pins s σ H Q I (l pins s σ H Q I q)⟩
theorem pa_le {t t' : TA} (h : PA X es t) (l : ∀ pins s σ H Q, Inv X pins σ H s → t' σ H Q → t σ H Q) : PA X es t' := ⟨fun pos pins s σ H Q I q => h.run pos pins s σ H Q I (l pins s σ H Q I q)⟩
def wOfL (w : DL) : DE := fun δ R => w δ fun xs δ' => R (.d (.list xs)) δ'
theorem je_ofL {w : DL} (h : JL X e w) : JE X e (wOfL w) := pe_le h fun pins s σ H Q I ⟨B, G, δ, R, rel, hw, k⟩ => by
  refine ⟨B, G, δ, _, rel, hw, fun a vs H' G' xs δ' r sG rel' hB t => ?_⟩
  obtain ⟨rel2, s2⟩ := rel'.takeB (p := a) hB (fun b hb => (upd_ne hb).symm) upd_same
  exact k _ H' _ _ _ r (sG.trans s2) rel2 (Dn.lst upd_same (t.mono s2))

def wVar (i : Nat) : DE := fun δ R => match δ[i]? with
  | some (.d x) => R (.d x) δ
  | some .em => False
  | none => False
  | _ => R (.s i) δ
theorem je_var {i : Nat} {x : Str} (h : PE X (.Name x pos) (tVar i)) : JE X (.Name x pos) (wVar i) := pe_le h fun pins s σ H Q I ⟨B, G, δ, R, rel, hw, k⟩ => by
  unfold wVar at hw
  cases e : δ[i]? with
  | none => rw [e] at hw; exact hw.elim
  | some c =>
    rw [e] at hw
    obtain ⟨w, hw', co⟩ := rel.at e
    cases c with
    | em => exact hw.elim
    | d x =>
      obtain ⟨v, rfl, q⟩ := co
      exact ⟨v, hw', k v H G _ _ hw (Same.refl _) rel q⟩
    | ol a xs =>
      obtain ⟨rfl, _⟩ := co
      exact ⟨_, hw', k _ H G _ _ hw (Same.refl _) rel hw'⟩
    | dk a b c =>
      obtain ⟨rfl, _⟩ := co
      exact ⟨_, hw', k _ H G _ _ hw (Same.refl _) rel hw'⟩
    | ob a n fs =>
      obtain ⟨rfl, _⟩ := co
      exact ⟨_, hw', k _ H G _ _ hw (Same.refl _) rel hw'⟩
    | fv a m =>
      obtain ⟨rfl, _⟩ := co
      exact ⟨_, hw', k _ H G _ _ hw (Same.refl _) rel hw'⟩
    | gx t =>
      obtain ⟨rfl, _⟩ := co
      exact ⟨_, hw', k _ H G _ _ hw (Same.refl _) rel hw'⟩
    | xc a cls d x =>
      obtain ⟨rfl, _⟩ := co
      exact ⟨_, hw', k _ H G _ _ hw (Same.refl _) rel hw'⟩
    | scr a ns =>
      obtain ⟨rfl, _⟩ := co
      exact ⟨_, hw', k _ H G _ _ hw (Same.refl _) rel hw'⟩
    | od a kvs =>
      obtain ⟨rfl, _⟩ := co
      exact ⟨_, hw', k _ H G _ _ hw (Same.refl _) rel hw'⟩
    | dx a b c xs n ys =>
      obtain ⟨rfl, _⟩ := co
      exact ⟨_, hw', k _ H G _ _ hw (Same.refl _) rel hw'⟩
def wC (x : PyData) : DE := fun δ R => R (.d x) δ
theorem je_c {v : V} {x : PyData} (h : PE X e (tC v)) (hv : ∀ K G, Dn K G v x) : JE X e (wC x) := pe_le h fun pins s σ H Q I ⟨B, G, δ, R, rel, hw, k⟩ => k v H G _ _ hw (Same.refl _) rel (hv _ _)
theorem je_int {i j} : JE X (.Constant (.int i) j pos) (wC (.int i)) := je_c pe_int fun _ _ => .int i
theorem je_str {i j} : JE X (.Constant (.str i) j pos) (wC (.str i)) := je_c pe_str fun _ _ => .str i
theorem je_bl {i j} : JE X (.Constant (.bool i) j pos) (wC (.bool i)) := je_c pe_bl fun _ _ => .bl i
theorem je_non {j} : JE X (.Constant .none j pos) (wC .none) := je_c pe_non fun _ _ => .non

def wNil : DA := fun δ R => R [] δ
def wCons (w : DE) (r : DA) : DA := fun δ R => w δ fun o δ1 => r δ1 fun os δ2 => R (o :: os) δ2
theorem ja_nil : JA X [] wNil := pa_le pa_nil fun pins s σ H Q I ⟨B, G, δ, R, rel, hw, k⟩ => k [] H G _ _ hw (Same.refl _) rel .nil
theorem ja_cons {w : DE} {r : DA} (ha : JE X e w) (hr : JA X es r) (hs : starEach (e :: es) X.env = (false, eval e X.env) :: starEach es X.env := by rfl) : JA X (e :: es) (wCons w r) :=
  pa_le (pa_cons ha hr hs) fun pins s σ H Q I ⟨B, G, δ, R, rel, hw, k⟩ =>
    ⟨B, G, δ, _, rel, hw, fun v H1 G1 o δ1 r1 s1 rel1 ok1 => ⟨B, G1, δ1, _, rel1, r1, fun vs H2 G2 os δ2 r2 s2 rel2 ok2 => k (v :: vs) H2 G2 _ _ r2 (s1.trans s2) rel2 (.cons (ok1.mono s2) ok2)⟩⟩

abbrev P2 := PyData → PyData → (PyData → Prop) → Prop
abbrev PN := List PyData → (PyData → Prop) → Prop
def rOf (K : PySem.W.Frag) (p : P2) : R2 := fun x y H Q => ∃ B G δ σ dx dy R, Rel K B G δ σ H ∧ Bor K G H x dx ∧ Bor K G H y dy ∧ p dx dy R ∧ ∀ v H' G' z, R z → Same G G' → Rel K B G' δ σ H' → Dn K G' v z → Q v H'
abbrev OpD (X : Cx) (f : Value → Value → Sem Value) (p : P2) : Prop := OpR X f (rOf X.K p)
def wOp (p : P2) (wa wb : DE) : DE := fun δ R => wa δ fun o1 δ1 => wb δ1 fun o2 δ2 => use o1 δ2 fun x => use o2 δ2 fun y => p x y fun z => R (.d z) δ2
theorem op_up {p : P2} {wa wb : DE} {K : PySem.W.Frag} {σ : L2.St} {H : Hp} {Q : VK} (h : up K (wOp p wa wb) σ H Q) : tOp (rOf K p) (up K wa) (up K wb) σ H Q := by
  obtain ⟨B, G, δ, R, rel, hw, k⟩ := h
  refine ⟨B, G, δ, _, rel, hw, fun v H1 G1 o1 δ1 r1 s1 rel1 ok1 => ⟨B, G1, δ1, _, rel1, r1, fun u H2 G2 o2 δ2 r2 s2 rel2 ok2 => ?_⟩⟩
  obtain ⟨x, q1, b1⟩ := use_ok rel2 (ok1.mono s2) r2
  obtain ⟨y, q2, b2⟩ := use_ok rel2 ok2 q1
  exact ⟨B, G2, δ2, σ, x, y, _, rel2, b1, b2, q2, fun v' H' G' z rz s3 rel3 dz => k v' H' G' _ _ rz (s1.trans (s2.trans s3)) rel3 dz⟩
theorem je_op {p : P2} {op : Operator} {wa wb : DE} (ho : OpD X (binaryOp op) p) (ha : JE X a wa) (hb : JE X b wb) : JE X (.BinOp a op b pos) (wOp p wa wb) :=
  pe_le (pe_op ho ha hb) fun _ _ _ _ _ _ h => op_up h
theorem je_cmp {p : P2} {op : CmpOp} {wa wb : DE} (ho : OpD X (compareOp op) p) (ha : JE X a wa) (hb : JE X b wb) (hm : behindInMarks op b = false := by rfl) : JE X (.Compare a [op] [b] pos) (wOp p wa wb) :=
  pe_le (pe_cmpR ho ha hb hm) fun _ _ _ _ _ _ h => op_up h
def wB (w : DE) : DT := fun δ R => w δ fun o δ1 => use o δ1 fun x => ∃ b, x = .bool b ∧ R b δ1
theorem dn_bool {K : PySem.W.Frag} {G : Hp} {v : V} {b : Bool} (h : Dn K G v (.bool b)) : v = .bl b := by cases h; rfl
theorem dn_int {K : PySem.W.Frag} {G : Hp} {v : V} {b : Int} (h : Dn K G v (.int b)) : v = .int b := by cases h; rfl
theorem dn_str {K : PySem.W.Frag} {G : Hp} {v : V} {b : Str} (h : Dn K G v (.str b)) : v = .str b := by cases h; rfl
theorem dn_none {K : PySem.W.Frag} {G : Hp} {v : V} (h : Dn K G v .none) : v = .non := by cases h; rfl
theorem bor_bool {K : PySem.W.Frag} {G H : Hp} {v : V} {b : Bool} (h : Bor K G H v (.bool b)) : v = .bl b := by
  rcases h with h | ⟨_, _, _, _, e, _⟩
  · exact dn_bool h
  · cases e
theorem bor_int {K : PySem.W.Frag} {G H : Hp} {v : V} {b : Int} (h : Bor K G H v (.int b)) : v = .int b := by
  rcases h with h | ⟨_, _, _, _, e, _⟩
  · exact dn_int h
  · cases e
theorem bor_str {K : PySem.W.Frag} {G H : Hp} {v : V} {b : Str} (h : Bor K G H v (.str b)) : v = .str b := by
  rcases h with h | ⟨_, _, _, _, e, _⟩
  · exact dn_str h
  · cases e
theorem bor_none {K : PySem.W.Frag} {G H : Hp} {v : V} (h : Bor K G H v .none) : v = .non := by
  rcases h with h | ⟨_, _, _, _, e, _⟩
  · exact dn_none h
  · cases e
theorem bor_tup {K : PySem.W.Frag} {G H : Hp} {v : V} {ds : List PyData} (h : Bor K G H v (.tuple ds)) : ∃ a vs, v = .ref a ∧ SqT K G a vs ∧ DnL K G vs ds := by
  rcases h with h | ⟨_, _, _, _, e, _⟩
  · cases h with | tup h t => exact ⟨_, _, rfl, h.sq, t⟩
  · cases e
theorem bor_tupS {K : PySem.W.Frag} {G H : Hp} {v : V} {ds : List PyData} (h : Bor K G H v (.tuple ds)) : ∃ a vs, v = .ref a ∧ TupAt G a vs ∧ DnL K G vs ds := by
  rcases h with h | ⟨_, _, _, _, e, _⟩
  · cases h with | tup h t => exact ⟨_, _, rfl, h, t⟩
  · cases e
theorem bor_lst {K : PySem.W.Frag} {B G H : Hp} {δ : DS} {σ : L2.St} {v : V} {ds : List PyData} (R : Rel K B G δ σ H) (h : Bor K G H v (.list ds)) : ∃ a vs, v = .ref a ∧ H a = some (.lst vs) ∧ DnL K G vs ds := by
  rcases h with h | ⟨a, vs, xs, rfl, e, q, t⟩
  · cases h with | lst h t => exact ⟨_, _, rfl, R.sg _ _ h, t⟩
  · cases e; exact ⟨a, vs, rfl, q, t⟩
theorem b_up {w : DE} {K : PySem.W.Frag} {σ : L2.St} {H : Hp} {Q : Bool → Hp → Prop} (h : upT K (wB w) σ H Q) : up K w σ H fun x H1 => ∃ c, x = .bl c ∧ Q c H1 := by
  obtain ⟨B, G, δ, R, rel, hw, k⟩ := h
  refine ⟨B, G, δ, _, rel, hw, fun v H1 G1 o1 δ1 r1 s1 rel1 ok1 => ?_⟩
  obtain ⟨x, ⟨b, rfl, q⟩, b1⟩ := use_ok rel1 ok1 r1
  exact ⟨b, bor_bool b1, k b H1 G1 _ q s1 rel1⟩
theorem jt_val {w : DE} (h : JE X e w) (he : ∀ whole, isTrue e X.env whole = (do let v ← whole; standAt e.pos; holding [v] (truthy v)) := by intro _; rfl) : JT X e (wB w) :=
  pt_le (pt_val h he) fun _ _ _ _ _ _ h => b_up h
theorem jt_cmp {p : P2} {op : CmpOp} {wa wb : DE} (ho : OpD X (compareOp op) p) (ha : JE X a wa) (hb : JE X b wb) (hm : behindInMarks op b = false := by rfl) : JT X (.Compare a [op] [b] pos) (wB (wOp p wa wb)) :=
  pt_le (pt_cmpR ho ha hb hm) fun _ _ _ _ _ _ h => by
    have h2 := b_up h
    exact op_up h2
def wChain (p q : P2) (wa wb wc : DE) : DE := fun δ R => wa δ fun o1 δ1 => wb δ1 fun o2 δ2 => use o1 δ2 fun x => use o2 δ2 fun y => p x y fun z => ∃ k, z = .bool k ∧
  if k = true then wc δ2 fun o3 δ3 => use o2 δ3 fun y => use o3 δ3 fun w => q y w fun z => R (.d z) δ3 else R (.d (.bool false)) δ2
variable {rest : List Expr}
def wAnd (t u : DT) : DT := fun δ R => t δ fun k δ1 => if k = true then u δ1 R else R false δ1
def wOr (t u : DT) : DT := fun δ R => t δ fun k δ1 => if k = true then R true δ1 else u δ1 R
def wNot (t : DT) : DT := fun δ R => t δ fun k δ1 => R (!k) δ1
theorem jw_or1 {t : DT} (h : JT X a t) : JW X (.BoolOp .Or [a] pos) t := pw_or1 h
theorem jw_or {t u : DT} (ha : JT X a t) (hb : JW X (.BoolOp .Or (b :: rest) pos) u) : JW X (.BoolOp .Or (a :: b :: rest) pos) (wOr t u) :=
  pw_le (pw_or ha hb) fun pins s σ H Q I ⟨B, G, δ, R, rel, hw, k⟩ => ⟨B, G, δ, _, rel, hw, fun c H1 G1 δ1 r1 s1 rel1 => by
    cases c with
    | false => rw [if_neg Bool.false_ne_true] at r1 ⊢; exact ⟨B, G1, δ1, _, rel1, r1, fun b H2 G2 δ2 r2 s2 rel2 => k b H2 G2 δ2 r2 (s1.trans s2) rel2⟩
    | true => rw [if_pos rfl] at r1 ⊢; exact k true H1 G1 δ1 r1 s1 rel1⟩
theorem jt_w {t : DT} (h : JW X e t) : JT X e t := PW.pt h
theorem jt_not {t : DT} (h : JT X a t) : JT X (.UnaryOp .Not a pos) (wNot t) :=
  pt_le (pt_not h) fun pins s σ H Q I ⟨B, G, δ, R, rel, hw, k⟩ => ⟨B, G, δ, _, rel, hw, fun c H1 G1 δ1 r1 s1 rel1 => k (!c) H1 G1 δ1 r1 s1 rel1⟩
def wAndV (w u : DE) : DE := fun δ R => w δ fun o δ1 => use o δ1 fun x => ∃ k, x = .bool k ∧ if k = true then u δ1 R else R (.d (.bool false)) δ1
def wOrV (w u : DE) : DE := fun δ R => w δ fun o δ1 => use o δ1 fun x => ∃ k, x = .bool k ∧ if k = true then R (.d (.bool true)) δ1 else u δ1 R
def wNotV (w : DE) : DE := fun δ R => w δ fun o δ1 => use o δ1 fun x => ∃ k, x = .bool k ∧ R (.d (.bool (!k))) δ1
def wIfE (t : DT) (wa wb : DE) : DE := fun δ R => t δ fun k δ1 => if k = true then wa δ1 R else wb δ1 R
def pNeg (x : PyData) (R : PyData → Prop) : Prop := match x with
  | .int i => R (.int (-i))
  | _ => False
def wUn (p : PyData → (PyData → Prop) → Prop) (w : DE) : DE := fun δ R => w δ fun o δ1 => use o δ1 fun x => p x fun z => R (.d z) δ1
theorem je_neg {w : DE} (h : JE X a w) : JE X (.UnaryOp .USub a pos) (wUn pNeg w) :=
  pe_le (pe_un un_neg h) fun pins s σ H Q I ⟨B, G, δ, R, rel, hw, k⟩ => ⟨B, G, δ, _, rel, hw, fun v H1 G1 o δ1 r1 s1 rel1 ok1 => by
    obtain ⟨x, q, b1⟩ := use_ok rel1 ok1 r1
    cases x with
    | int i => exact ⟨i, bor_int b1, k _ H1 G1 _ δ1 q s1 rel1 (Dn.int _)⟩
    | _ => exact q.elim⟩
def wTup (w : DA) : DE := fun δ R => w δ fun os δ1 => lkL os δ1 fun xs δ2 => xs.length ≤ 1000 ∧ R (.d (.tuple xs)) δ2
def wLst (w : DA) : DL := fun δ R => w δ fun os δ1 => lkL os δ1 fun xs δ2 => xs.length ≤ 1000 ∧ R xs δ2
theorem le_line {n : Nat} (h : n ≤ 1000) : n ≤ sizeLine := by rw [sizeLine_eq]; omega
theorem je_tup {w : DA} {x1} (h : JA X es w) : JE X (.Tuple es x1 pos) (wTup w) :=
  pe_le (pe_tupC h) fun pins s σ H Q I ⟨B, G, δ, R, rel, hw, k⟩ => ⟨B, G, δ, _, rel, hw, fun vs H1 G1 os δ1 r1 s1 rel1 ok1 => by
    obtain ⟨G2, δ2, xs, ⟨hl, q⟩, s2, rel2, t⟩ := lkL_ok rel1 ok1 r1
    refine ⟨by rw [t.len]; exact le_line hl, fun p o hd np => ?_⟩
    obtain ⟨rel3, s3, at3⟩ := rel2.laidT (xs := vs) np hd
    exact k _ _ _ _ _ q (s1.trans (s2.trans s3)) rel3 (Dn.tup at3 (t.mono s3))⟩
theorem jl_lst {w : DA} (h : JA X es w) : JL X (.List es pos) (wLst w) :=
  pe_le (pe_lst h) fun pins s σ H Q I ⟨B, G, δ, R, rel, hw, k⟩ => ⟨B, G, δ, _, rel, hw, fun vs H1 G1 os δ1 r1 s1 rel1 ok1 => by
    obtain ⟨G2, δ2, xs, ⟨hl, q⟩, s2, rel2, t⟩ := lkL_ok rel1 ok1 r1
    refine ⟨by rw [t.len]; exact le_line hl, fun p np => ?_⟩
    exact k p vs _ _ _ _ q (s1.trans s2) (rel2.growB np) (rel2.freeB np) t⟩
def wDic : DE := fun δ R => R (.d (.dict [])) δ
def tDNewN : TE := fun _ H Q => ∀ p, H p = none → p ≠ sysModules → Q (.ref p) (upd H p (.dK []))
theorem pe_dnewN : PE X (.Dict [] [] pos) tDNewN := ⟨fun pins s σ H Q I h =>
  wpAny_Dict_empty ⟨.ref s.heap.objs.size, _, I.laid (a := s.heap.objs.size) (o := .dK []) (t' := s.toks) (fun _ _ q => Heap.get?_push_of_some _ q) (Nat.le_refl _) (dk_empty s.heap I.big), rfl, h _ (I.hok.fresh (Nat.le_refl _)) (by
    obtain ⟨mc, ⟨o, es, ep, ho, _⟩, _⟩ := I.ok.mod.nolimit
    have h1 := Heap.lt_size (I.bs _ _ ho).1
    intro e
    rw [e] at h1
    exact absurd h1 (by decide))⟩⟩
theorem je_dic : JE X (.Dict [] [] pos) wDic :=
  pe_le pe_dnewN fun pins s σ H Q I ⟨B, G, δ, R, rel, hw, k⟩ => fun p np n1 => by
    obtain ⟨rel3, s3⟩ := rel.laid (o := .dK []) np
    exact k _ _ _ _ _ hw s3 rel3 (Dn.dic upd_same n1)
def rOfN (K : PySem.W.Frag) (p : PN) : List V → Hp → VK → Prop := fun vs H Q => ∃ B G δ σ ds R, Rel K B G δ σ H ∧ BorL K G H vs ds ∧ p ds R ∧ ∀ v H' G' z, R z → Same G G' → Rel K B G' δ σ H' → Dn K G' v z → Q v H'
abbrev CallD (X : Cx) (f : Value) (p : PN) : Prop := CallR X f (rOfN X.K p)
def wFn (p : PN) (w : DA) : DE := fun δ R => w δ fun os δ1 => useL os δ1 fun xs => p xs fun z => R (.d z) δ1
theorem fn_up {p : PN} {w : DA} {K : PySem.W.Frag} {σ : L2.St} {H : Hp} {Q : VK} (h : up K (wFn p w) σ H Q) : tCB (rOfN K p) (upA K w) σ H Q := by
  obtain ⟨B, G, δ, R, rel, hw, k⟩ := h
  refine ⟨B, G, δ, _, rel, hw, fun vs H1 G1 os δ1 r1 s1 rel1 ok1 => ?_⟩
  obtain ⟨xs, q, b⟩ := useL_ok rel1 ok1 r1
  exact ⟨B, G1, δ1, σ, xs, _, rel1, b, q, fun v H' G' z rz s2 rel2 dz => k v H' G' _ _ rz (s1.trans s2) rel2 dz⟩
theorem je_fn {p : PN} {w : DA} {id : String} {x : Str} {px : Pos} (hc : CallD X (.builtin id) p) (hg : Gl X x) (hm : X.mg x = none) (hv : bootBuiltins x = some (.builtin id)) (ha : JA X (e :: es) w) (hn : x ≠ "__name__" := by decide) (hdb : (x == ("__debug__" : Str)) = false := by decide)
    (he : starEach (e :: es) X.env = (false, eval e X.env) :: starEach es X.env := by rfl) (hpl : (backTo pos (starEach es X.env)).any (·.1) = false := by rfl) : JE X (.Call (.Name x px) (e :: es) [] pos) (wFn p w) :=
  pe_le (pe_callB hc hg hm hv ha hn hdb he hpl) fun _ _ _ _ _ _ h => fn_up h
theorem je_ty {p : PN} {w : DA} {T : String} {x : Str} {px : Pos} (hc : CallD X (.type T) p) (hg : Gl X x) (hm : X.mg x = none) (hv : bootBuiltins x = some (.type T)) (ha : JA X (e :: es) w) (hn : x ≠ "__name__" := by decide) (hdb : (x == ("__debug__" : Str)) = false := by decide)
    (he : starEach (e :: es) X.env = (false, eval e X.env) :: starEach es X.env := by rfl) (hpl : (backTo pos (starEach es X.env)).any (·.1) = false := by rfl) : JE X (.Call (.Name x px) (e :: es) [] pos) (wFn p w) :=
  pe_le (pe_callTy hc hg hm hv ha hn hdb he hpl) fun _ _ _ _ _ _ h => fn_up h
def wFnL (p : List PyData → (List PyData → Prop) → Prop) (w : DA) : DL := fun δ R => w δ fun os δ1 => useL os δ1 fun xs => p xs fun z => R z δ1
abbrev P2L := PyData → PyData → (List PyData → Prop) → Prop
def rOfL (K : PySem.W.Frag) (p : P2L) : R2 := fun x y H Q => ∃ B G δ σ dx dy R, Rel K B G δ σ H ∧ Bor K G H x dx ∧ Bor K G H y dy ∧ p dx dy R ∧ ∀ a ws H' G' z, R z → Same G G' → Rel K (upd B a (.lst ws)) G' δ σ H' → B a = none → DnL K G' ws z → Q (.ref a) H'
abbrev OpDL (X : Cx) (f : Value → Value → Sem Value) (p : P2L) : Prop := OpR X f (rOfL X.K p)
def wOpL (p : P2L) (wa wb : DE) : DL := fun δ R => wa δ fun o1 δ1 => wb δ1 fun o2 δ2 => use o1 δ2 fun x => use o2 δ2 fun y => p x y fun z => R z δ2
theorem opL_up {p : P2L} {wa wb : DE} {K : PySem.W.Frag} {σ : L2.St} {H : Hp} {Q : VK} (h : upL K (wOpL p wa wb) σ H Q) : tOp (rOfL K p) (up K wa) (up K wb) σ H Q := by
  obtain ⟨B, G, δ, R, rel, hw, k⟩ := h
  refine ⟨B, G, δ, _, rel, hw, fun v H1 G1 o1 δ1 r1 s1 rel1 ok1 => ⟨B, G1, δ1, _, rel1, r1, fun u H2 G2 o2 δ2 r2 s2 rel2 ok2 => ?_⟩⟩
  obtain ⟨x, q1, b1⟩ := use_ok rel2 (ok1.mono s2) r2
  obtain ⟨y, q2, b2⟩ := use_ok rel2 ok2 q1
  exact ⟨B, G2, δ2, σ, x, y, _, rel2, b1, b2, q2, fun a ws H' G' z rz s3 rel3 hB dz => k a ws H' G' _ _ rz (s1.trans (s2.trans s3)) rel3 hB dz⟩
theorem jl_op {p : P2L} {op : Operator} {wa wb : DE} (ho : OpDL X (binaryOp op) p) (ha : JE X a wa) (hb : JE X b wb) : JL X (.BinOp a op b pos) (wOpL p wa wb) :=
  pe_le (pe_op ho ha hb) fun _ _ _ _ _ _ h => opL_up h
abbrev IxD (X : Cx) (p : P2) : Prop := IxR X (rOf X.K p)
theorem je_ix {p : P2} {wa wb : DE} (hr : IxD X p) (ha : JE X a wa) (hb : JE X b wb) (hs : PlainIx b) : JE X (.Subscript a b pos) (wOp p wa wb) :=
  pe_le (pe_ix hr ha hb hs) fun _ _ _ _ _ _ h => op_up h
abbrev DO := DS → (Option Int → DS → Prop) → Prop
def wNoP : DO := fun δ R => R none δ
def wPart (w : DE) : DO := fun δ R => w δ fun o δ1 => use o δ1 fun x => ∃ i, x = .int i ∧ R (some i) δ1
abbrev P3 := PyData → Option Int → Option Int → (PyData → Prop) → Prop
def wSl (p : P3) (w : DE) (l h : DO) : DE := fun δ R => w δ fun o δ1 => l δ1 fun i δ2 => h δ2 fun j δ3 => use o δ3 fun x => p x i j fun z => R (.d z) δ3
end
end DL
set_option Elab.async false
set_option linter.all false
set_option maxRecDepth 100000
set_option maxHeartbeats 4000000
namespace DL
open PySem PySem.Spec PyProof.Rows L2
variable [Tb]

mutual
theorem Dn.dp {K : PySem.W.Frag} {H : Hp} : ∀ (d : PyData) {v : V}, d.hasDict = false → Dn K H v d → Dp K H v d
  | .none, _, _, h => by cases h; exact .non
  | .bool b, _, _, h => by cases h; exact .bl b
  | .int i, _, _, h => by cases h; exact .int i
  | .str x, _, _, h => by cases h; exact .str x
  | .list ds, _, z, h => by cases h with | lst h t => exact .lst (SqL.of h) (DnL.dp ds (by simpa [PyData.hasDict] using z) t)
  | .tuple ds, _, z, h => by cases h with | tup h t => exact .tup h.sq (DnL.dp ds (by simpa [PyData.hasDict] using z) t)
  | .dict kvs, _, z, h => by simp [PyData.hasDict] at z
theorem DnL.dp {K : PySem.W.Frag} {H : Hp} : ∀ (ds : List PyData) {vs : List V}, PyData.hasDictAll ds = false → DnL K H vs ds → DpAll K H vs ds
  | [], _, _, h => by cases h; exact .nil
  | d :: ds, _, z, h => by
    have z' : d.hasDict = false ∧ PyData.hasDictAll ds = false := by simpa [PyData.hasDictAll] using z
    cases h with | cons a b => exact .cons (Dn.dp d z'.1 a) (DnL.dp ds z'.2 b)
end
theorem noDict_of_shaped {d : PyData} (h : SeqAt.shaped d = true) : d.hasDict = false := PyData.hasDict_of_canLay d (SeqAt.canLay_of_shaped h)

section
variable {X : Cx}
abbrev ints2 (f : Int → Int → (PyData → Prop) → Prop) : P2 := fun x y R => match x, y with
  | .int i, .int j => f i j R
  | _, _ => False
theorem opd_ints {f : Value → Value → Sem Value} {C : Int → Int → Prop} {g : Int → Int → Int} {p : Int → Int → (PyData → Prop) → Prop} (h : OpR X f (rI C fun i j => .int (g i j))) (hp : ∀ i j R, p i j R → C i j ∧ R (.int (g i j))) : OpD X f (ints2 p) := by
  intro pins s σ H x y v u Q I rx ry ⟨B, G, δ, σ', dx, dy, R, rel, bx, by', q, k⟩
  cases dx <;> cases dy <;> first | exact False.elim q | skip
  obtain ⟨c, r⟩ := hp _ _ _ q
  exact h pins s σ H x y v u Q I rx ry ⟨_, _, bor_int bx, bor_int by', c, k _ H G _ r (Same.refl _) rel (Dn.int _)⟩
theorem opd_bools {f : Value → Value → Sem Value} {g : Int → Int → Bool} (h : OpR X f (rI0 fun i j => .bl (g i j))) : OpD X f (ints2 fun i j R => R (.bool (g i j))) := by
  intro pins s σ H x y v u Q I rx ry ⟨B, G, δ, σ', dx, dy, R, rel, bx, by', q, k⟩
  cases dx <;> cases dy <;> first | exact False.elim q | skip
  exact h pins s σ H x y v u Q I rx ry ⟨_, _, bor_int bx, bor_int by', k _ H G _ q (Same.refl _) rel (Dn.bl _)⟩

def pSub : P2 := ints2 fun i j R => R (.int (i - j))
def pMul : P2 := fun x y R => match x, y with
  | .int i, .int j => (CMul i j ∨ CMulW i j) ∧ R (.int (i * j))
  | .list xs, .int k => 0 ≤ k ∧ xs.length * k.toNat ≤ 1000000 ∧ k < 1000000 ∧ R (.list (List.replicate k.toNat xs).flatten)
  | _, _ => False
def pDiv : P2 := ints2 fun i j R => (0 < j ∧ j.natAbs.log2 < 9000) ∧ R (.int (i / j))
def pMod : P2 := ints2 fun i j R => 0 < j ∧ R (.int (i % j))
def pPow : P2 := ints2 fun i j R => CPow i j ∧ R (.int (i ^ j.toNat))
def pShl : P2 := ints2 fun i j R => CPow i j ∧ R (.int (i * 2 ^ j.toNat))
def pAnd : P2 := ints2 fun i j R => R (.int (Builtin.bitAnd i j))
def pOr : P2 := ints2 fun i j R => R (.int (Builtin.bitOr i j))
def pLt : P2 := fun x y R => match x, y with
  | .int i, .int j => R (.bool (decide (i < j)))
  | _, _ => False
def pLe : P2 := ints2 fun i j R => R (.bool (decide (i ≤ j)))
def pGt : P2 := ints2 fun i j R => R (.bool (decide (j < i)))
def pGe : P2 := ints2 fun i j R => R (.bool (decide (j ≤ i)))
def pAdd : P2 := fun x y R => match x, y with
  | .int i, .int j => R (.int (i + j))
  | .str a, .str b => a.length + b.length ≤ 1000000 ∧ R (.str (a ++ b))
  | .tuple xs, .tuple ys => xs.length + ys.length ≤ 1000000 ∧ R (.tuple (xs ++ ys))
  | .list xs, .list ys => xs.length + ys.length ≤ 1000000 ∧ R (.list (xs ++ ys))
  | _, _ => False
theorem million {n : Nat} (h : n ≤ 1000000) : n ≤ sizeLine := by rw [sizeLine_eq]; omega
theorem d_div : OpD X (binaryOp .FloorDiv) pDiv := opd_ints op_fdivW fun i j R h => h
theorem d_mod : OpD X (binaryOp .Mod) pMod := opd_ints op_mod fun i j R h => h
theorem d_pow : OpD X (binaryOp .Pow) pPow := opd_ints op_pow fun i j R h => h
theorem d_ge : OpD X (compareOp .GtE) pGe := opd_bools op_ge
theorem DnL.nil_iff {K : PySem.W.Frag} {G : Hp} {vs : List V} {ds : List PyData} (t : DnL K G vs ds) : vs = [] ↔ ds = [] := by
  cases t with
  | nil => simp
  | cons a b => simp
theorem d_add : OpD X (binaryOp .Add) pAdd := by
  intro pins s σ H x y v u Q I rx ry ⟨B, G, δ, σ', dx, dy, R, rel, bx, by', q, k⟩
  cases dx <;> cases dy <;> first | exact False.elim q | skip
  · exact op_add pins s σ H x y v u Q I rx ry ⟨_, _, bor_int bx, bor_int by', k _ H G _ q (Same.refl _) rel (Dn.int _)⟩
  · exact op_add_str pins s σ H x y v u Q I rx ry ⟨_, _, bor_str bx, bor_str by', million q.1, k _ H G _ q.2 (Same.refl _) rel (Dn.str _)⟩
  · obtain ⟨a, xs, rfl, ha, ta⟩ := bor_lst rel bx
    obtain ⟨b, ys, rfl, hb, tb⟩ := bor_lst rel by'
    refine op_cat pins s σ H _ _ v u Q I rx ry ⟨a, b, xs, ys, rfl, rfl, ha, hb, by rw [ta.len, tb.len]; exact million q.1, fun p np => ?_⟩
    obtain ⟨rel3, s3⟩ := rel.laid (o := .lst (xs ++ ys)) np
    exact k _ _ _ _ q.2 s3 rel3 (Dn.lst upd_same ((ta.app tb).mono s3))
  · obtain ⟨a, xs, rfl, ha, ta⟩ := bor_tupS bx
    obtain ⟨b, ys, rfl, hb, tb⟩ := bor_tupS by'
    refine op_catC pins s σ H _ _ v u Q I rx ry ⟨a, b, xs, ys, rfl, rfl, sqT_mono rel.sg ha.sq, sqT_mono rel.sg hb.sq, by rw [ta.len, tb.len]; exact million q.1, fun e => ?_, fun e e2 => ?_, fun e1 e2 p o hd np => ?_⟩
    · have e' := ta.nil_iff.mp e
      subst e e'
      exact k _ H G _ q.2 (Same.refl _) rel (Dn.tup hb (by simpa using tb))
    · have e' := tb.nil_iff.mp e2
      subst e2 e'
      exact k _ H G _ q.2 (Same.refl _) rel (Dn.tup ha (by simpa using ta))
    · obtain ⟨rel3, s3, at3⟩ := rel.laidT (xs := xs ++ ys) np hd
      exact k _ _ _ _ q.2 s3 rel3 (Dn.tup at3 ((ta.app tb).mono s3))
theorem DnL.rep {K : PySem.W.Frag} {G : Hp} {vs : List V} {ds : List PyData} (t : DnL K G vs ds) : ∀ n : Nat, DnL K G (List.replicate n vs).flatten (List.replicate n ds).flatten
  | 0 => .nil
  | n + 1 => by
    rw [List.replicate_succ, List.replicate_succ, List.flatten_cons, List.flatten_cons]
    exact t.app (DnL.rep t n)
theorem d_mul : OpD X (binaryOp .Mult) pMul := by
  intro pins s σ H x y v u Q I rx ry ⟨B, G, δ, σ', dx, dy, R, rel, bx, by', q, k⟩
  cases dx <;> cases dy <;> first | exact False.elim q | skip
  · rcases q.1 with c | c
    · exact op_mul pins s σ H x y v u Q I rx ry ⟨_, _, bor_int bx, bor_int by', c, k _ H G _ q.2 (Same.refl _) rel (Dn.int _)⟩
    · exact op_mulW pins s σ H x y v u Q I rx ry ⟨_, _, bor_int bx, bor_int by', c, k _ H G _ q.2 (Same.refl _) rel (Dn.int _)⟩
  · obtain ⟨a, xs, rfl, ha, ta⟩ := bor_lst rel bx
    obtain ⟨q0, q1, q2, q3⟩ := q
    refine op_rep pins s σ H _ _ v u Q I rx ry ⟨a, _, xs, rfl, bor_int by', ha, by omega, by omega, by rw [ta.len]; exact million q1, fun p np => ?_⟩
    obtain ⟨rel3, s3⟩ := rel.laid (o := .lst _) np
    exact k _ _ _ _ q3 s3 rel3 (Dn.lst upd_same ((ta.rep _).mono s3))
def pAddL : P2L := fun x y R => match x, y with
  | .list xs, .list ys => xs.length + ys.length ≤ 1000000 ∧ R (xs ++ ys)
  | _, _ => False
theorem d_addL : OpDL X (binaryOp .Add) pAddL := by
  intro pins s σ H x y v u Q I rx ry ⟨B, G, δ, σ', dx, dy, R, rel, bx, by', q, k⟩
  cases dx <;> cases dy <;> first | exact False.elim q | skip
  obtain ⟨a, xs, rfl, ha, ta⟩ := bor_lst rel bx
  obtain ⟨b, ys, rfl, hb, tb⟩ := bor_lst rel by'
  exact op_cat pins s σ H _ _ v u Q I rx ry ⟨a, b, xs, ys, rfl, rfl, ha, hb, by rw [ta.len, tb.len]; exact million q.1, fun p np => k p _ _ G _ q.2 (Same.refl _) (rel.growB np) (rel.freeB np) (ta.app tb)⟩
def pMulL : P2L := fun x y R => match x, y with
  | .list xs, .int k => 0 ≤ k ∧ xs.length * k.toNat ≤ 1000000 ∧ k < 1000000 ∧ R (List.replicate k.toNat xs).flatten
  | _, _ => False
def sc2 : PyData → PyData → Bool
  | .int _, .int _ => true
  | .str _, .str _ => true
  | .bool _, .bool _ => true
  | .none, .none => true
  | _, _ => false
def pEq : P2 := fun x y R => (sc2 x y = true ∨ SeqAt.shaped x = true ∧ SeqAt.shaped y = true) ∧ R (.bool (PyData.eqv x y))
def pNe : P2 := fun x y R => (sc2 x y = true ∨ SeqAt.shaped x = true ∧ SeqAt.shaped y = true) ∧ R (.bool (!PyData.eqv x y))
theorem sc2_eq {K : PySem.W.Frag} {G H : Hp} {x y : V} {dx dy : PyData} (h : sc2 dx dy = true) (bx : Bor K G H x dx) (by' : Bor K G H y dy) : scal x y = true ∧ decide (x = y) = PyData.eqv dx dy := by
  cases dx <;> cases dy <;> first | exact absurd h Bool.false_ne_true | skip
  · obtain rfl := bor_none bx
    obtain rfl := bor_none by'
    exact ⟨rfl, by simp [PyData.eqv]⟩
  · obtain rfl := bor_bool bx
    obtain rfl := bor_bool by'
    refine ⟨rfl, ?_⟩
    rw [dec_bl]; simp [PyData.eqv]
  · obtain rfl := bor_int bx
    obtain rfl := bor_int by'
    refine ⟨rfl, ?_⟩
    rw [dec_int]; simp [PyData.eqv]
  · obtain rfl := bor_str bx
    obtain rfl := bor_str by'
    refine ⟨rfl, ?_⟩
    rw [dec_str]; simp [PyData.eqv]
theorem d_eq (hu : X.A.units + 64 < cLine) : OpD X (compareOp .Eq) pEq := by
  intro pins s σ H x y v u Q I rx ry ⟨B, G, δ, σ', dx, dy, R, rel, bx, by', ⟨c, q⟩, k⟩
  rcases c with c | ⟨q1, q2⟩
  · obtain ⟨h1, h2⟩ := sc2_eq c bx by'
    refine op_eq pins s σ H x y v u Q I rx ry ⟨h1, ?_⟩
    rw [h2]
    exact k _ H G _ q (Same.refl _) rel (Dn.bl _)
  · exact op_eqD hu pins s σ H x y v u Q I rx ry ⟨dx, dy, Dn.dp _ (noDict_of_shaped q1) (bx.dn rel), Dn.dp _ (noDict_of_shaped q2) (by'.dn rel), q1, q2, k _ H G _ q (Same.refl _) rel (Dn.bl _)⟩
theorem d_ne (hu : X.A.units + 64 < cLine) : OpD X (compareOp .NotEq) pNe := by
  intro pins s σ H x y v u Q I rx ry ⟨B, G, δ, σ', dx, dy, R, rel, bx, by', ⟨c, q⟩, k⟩
  rcases c with c | ⟨q1, q2⟩
  · obtain ⟨h1, h2⟩ := sc2_eq c bx by'
    refine op_ne pins s σ H x y v u Q I rx ry ⟨h1, ?_⟩
    rw [h2]
    exact k _ H G _ q (Same.refl _) rel (Dn.bl _)
  · exact op_neD hu pins s σ H x y v u Q I rx ry ⟨dx, dy, Dn.dp _ (noDict_of_shaped q1) (bx.dn rel), Dn.dp _ (noDict_of_shaped q2) (by'.dn rel), q1, q2, k _ H G _ q (Same.refl _) rel (Dn.bl _)⟩
def isNone : PyData → Bool
  | .none => true
  | _ => false
def pIs : P2 := fun x y R => match x, y with
  | x, .none => R (.bool (isNone x))
  | .bool a, .bool b => R (.bool (decide (a = b)))
  | _, _ => False
def pIsNot : P2 := fun x y R => match x, y with
  | x, .none => R (.bool (!isNone x))
  | .bool a, .bool b => R (.bool (!decide (a = b)))
  | _, _ => False
def pIn : P2 := fun x y R => match y with
  | .list ds => SeqAt.shaped x = true ∧ SeqAt.shaped (.list ds) = true ∧ R (.bool (ds.any fun z => PyData.eqv z x))
  | .tuple ds => SeqAt.shaped x = true ∧ SeqAt.shaped (.tuple ds) = true ∧ R (.bool (ds.any fun z => PyData.eqv z x))
  | .str z => ∃ c : Nat, x = .str ⟨#[c]⟩ ∧ R (.bool (decide (c ∈ z.cps.toList)))
  | _ => False
def pNotIn : P2 := fun x y R => match y with
  | .list ds => SeqAt.shaped x = true ∧ SeqAt.shaped (.list ds) = true ∧ R (.bool (!ds.any fun z => PyData.eqv z x))
  | .tuple ds => SeqAt.shaped x = true ∧ SeqAt.shaped (.tuple ds) = true ∧ R (.bool (!ds.any fun z => PyData.eqv z x))
  | .str z => ∃ c : Nat, x = .str ⟨#[c]⟩ ∧ R (.bool (!decide (c ∈ z.cps.toList)))
  | _ => False
def pIx : P2 := fun x y R => match x, y with
  | .list ds, .int i => ∃ z, atI ds i = some z ∧ R z
  | .tuple ds, .int i => ∃ z, atI ds i = some z ∧ R z
  | .str z, .int i => z.length ≤ 1000000 ∧ ∃ c, atI z.cps.toList i = some c ∧ R (.str ⟨#[c]⟩)
  | _, _ => False
theorem DnL.atI {K : PySem.W.Frag} {G : Hp} {vs : List V} {ds : List PyData} {i : Int} {z : PyData} (t : DnL K G vs ds) (h : L2.atI ds i = some z) : ∃ v, L2.atI vs i = some v ∧ Dn K G v z := by
  unfold L2.atI at h ⊢
  rw [t.len]
  cases e : ixN ds.length i with
  | none => rw [e] at h; cases h
  | some j => rw [e] at h; exact t.get h
theorem d_ix : IxD X pIx := by
  have hor := @ix_seq X
  intro ev es pins s σ H x y v u Q I rx ry ⟨B, G, δ, σ', dx, dy, R, rel, bx, by', q, k⟩ hsub
  cases dx <;> cases dy <;> first | exact False.elim q | skip
  · obtain ⟨q1, c, e, q⟩ := q
    exact hor ev es pins s σ H x y v u Q I rx ry (.inr (.inr ⟨_, _, c, bor_str bx, bor_int by', million q1, e, k _ H G _ q (Same.refl _) rel (Dn.str _)⟩)) hsub
  · obtain ⟨a, xs, rfl, ha, ta⟩ := bor_lst rel bx
    obtain ⟨z, e, q⟩ := q
    obtain ⟨w, e2, dw⟩ := ta.atI e
    exact hor ev es pins s σ H _ y v u Q I rx ry (.inl ⟨a, xs, _, w, rfl, bor_int by', SqL.of ha, e2, k _ H G _ q (Same.refl _) rel dw⟩) hsub
  · obtain ⟨a, xs, rfl, ha, ta⟩ := bor_tup bx
    obtain ⟨z, e, q⟩ := q
    obtain ⟨w, e2, dw⟩ := ta.atI e
    exact hor ev es pins s σ H _ y v u Q I rx ry (.inr (.inl ⟨a, xs, _, w, rfl, bor_int by', sqT_mono rel.sg ha, e2, k _ H G _ q (Same.refl _) rel dw⟩)) hsub
def cutD {α : Type} (xs : List α) (lo hi : Option Int) : List α := (xs.drop (HT.sIx xs.length 0 lo)).take (HT.sIx xs.length xs.length hi - HT.sIx xs.length 0 lo)
def pSl : P3 := fun x lo hi R => match x with
  | .list ds => R (.list (cutD ds lo hi))
  | .tuple ds => R (.tuple (cutD ds lo hi))
  | .str z => z.length ≤ 1000000 ∧ R (.str (cutS z lo hi))
  | _ => False
theorem DnL.cut {K : PySem.W.Frag} {G : Hp} {vs : List V} {ds : List PyData} {lo hi : Option Int} (t : DnL K G vs ds) : DnL K G (cutV vs lo hi) (cutD ds lo hi) := by
  unfold cutV cutD
  rw [t.len]
  exact (t.drop _).take _
end
end DL
set_option Elab.async false
set_option linter.all false
set_option maxRecDepth 100000
set_option maxHeartbeats 4000000
namespace DL
open PySem PySem.Spec PyProof.Rows L2
variable [Tb]

section
variable {X : Cx}
theorem BorL.one {K : PySem.W.Frag} {G H : Hp} {vs : List V} {d : PyData} (h : BorL K G H vs [d]) : ∃ v, vs = [v] ∧ Bor K G H v d := by
  cases h with | cons a b => cases b; exact ⟨_, rfl, a⟩
theorem BorL.two {K : PySem.W.Frag} {G H : Hp} {vs : List V} {d e : PyData} (h : BorL K G H vs [d, e]) : ∃ v u, vs = [v, u] ∧ Bor K G H v d ∧ Bor K G H u e := by
  cases h with | cons a b => obtain ⟨u, rfl, c⟩ := b.one; exact ⟨_, _, rfl, a, c⟩
abbrev one (p : PyData → (PyData → Prop) → Prop) : PN := fun xs R => match xs with
  | [x] => p x R
  | _ => False
abbrev oneL (p : PyData → (List PyData → Prop) → Prop) : List PyData → (List PyData → Prop) → Prop := fun xs R => match xs with
  | [x] => p x R
  | _ => False
abbrev two (p : PyData → PyData → (PyData → Prop) → Prop) : PN := fun xs R => match xs with
  | [x, y] => p x y R
  | _ => False
def pLen : PN := one fun x R => match x with
  | .list ds => R (.int ds.length)
  | .tuple ds => R (.int ds.length)
  | .str z => z.length ≤ 1000000 ∧ R (.int z.length)
  | _ => False
theorem c_len : CallD X (.builtin "len") pLen := by
  intro pins s σ H vs us Q I r ⟨B, G, δ, σ', ds, R, rel, b, q, k⟩
  match ds, q with
  | [d], q =>
    obtain ⟨v, rfl, bd⟩ := b.one
    cases d with
    | list xs =>
      obtain ⟨a, ws, rfl, ha, ta⟩ := bor_lst rel bd
      exact call_len pins s σ H _ us Q I r ⟨_, _, rfl, .inl ⟨ws, SqL.of ha, ta.len.symm⟩, k _ H G _ q (Same.refl _) rel (Dn.int _)⟩
    | tuple xs =>
      obtain ⟨a, ws, rfl, ha, ta⟩ := bor_tup bd
      exact call_len pins s σ H _ us Q I r ⟨_, _, rfl, .inr ⟨ws, sqT_mono rel.sg ha, ta.len.symm⟩, k _ H G _ q (Same.refl _) rel (Dn.int _)⟩
    | str z =>
      obtain rfl := bor_str bd
      exact call_len pins s σ H _ us Q I r ⟨_, _, rfl, ⟨million q.1, rfl⟩, k _ H G _ q.2 (Same.refl _) rel (Dn.int _)⟩
    | _ => exact False.elim q
def pTupOf : PN := one fun x R => match x with
  | .list ds => R (.tuple ds)
  | .tuple ds => R (.tuple ds)
  | _ => False
def pLstOf : List PyData → (List PyData → Prop) → Prop := oneL fun x R => match x with
  | .list ds => R ds
  | .tuple ds => R ds
  | _ => False
def pInt : PN := one fun x R => match x with
  | .int i => R (.int i)
  | .bool b => R (.int (if b then 1 else 0))
  | .str z => ∃ n, PySem.intText? z = some n ∧ z.length ≤ 640 ∧ R (.int n)
  | _ => False
theorem c_int : CallD X (.type "int") pInt := by
  intro pins s σ H vs us Q I r ⟨B, G, δ, σ', ds, R, rel, b, q, k⟩
  match ds, q with
  | [d], q =>
    obtain ⟨v, rfl, bd⟩ := b.one
    cases d with
    | int i => obtain rfl := bor_int bd; exact call_int1 pins s σ H _ us Q I r (.inl ⟨i, rfl, k _ H G _ q (Same.refl _) rel (Dn.int _)⟩)
    | bool i => obtain rfl := bor_bool bd; exact call_int1 pins s σ H _ us Q I r (.inr ⟨i, rfl, k _ H G _ q (Same.refl _) rel (Dn.int _)⟩)
    | str z =>
      obtain rfl := bor_str bd
      obtain ⟨n, q1, q2, q3⟩ := q
      exact call_int_str pins s σ H _ us Q I r ⟨z, n, rfl, q1, q2, k _ H G _ q3 (Same.refl _) rel (Dn.int _)⟩
    | _ => exact False.elim q
def pBool : PN := one fun x R => match x with
  | .int i => R (.bool (i != 0))
  | .bool b => R (.bool b)
  | _ => False
def pStr : PN := one fun x R => match x with
  | .int i => i.natAbs.log2 < 1920 ∧ R (.str (toString i))
  | .str z => R (.str z)
  | _ => False
def pAbs : PN := one fun x R => match x with
  | .int i => R (.int (if i < 0 then -i else i))
  | _ => False
theorem c_abs : CallD X (.builtin "abs") pAbs := by
  intro pins s σ H vs us Q I r ⟨B, G, δ, σ', ds, R, rel, b, q, k⟩
  match ds, q with
  | [d], q =>
    obtain ⟨v, rfl, bd⟩ := b.one
    cases d with
    | int i => obtain rfl := bor_int bd; exact call_abs pins s σ H _ us Q I r ⟨i, rfl, k _ H G _ q (Same.refl _) rel (Dn.int _)⟩
    | _ => exact False.elim q
def pMax2 : PN := two fun x y R => match x, y with
  | .int i, .int j => R (.int (if j > i then j else i))
  | _, _ => False
def pMin2 : PN := two fun x y R => match x, y with
  | .int i, .int j => R (.int (if j < i then j else i))
  | _, _ => False
def pSum : PN := one fun x R => match x with
  | .list ds => ∃ ns : List Int, ds = ns.map PyData.int ∧ R (.int ns.sum)
  | _ => False
def pMax : PN := one fun x R => match x with
  | .list ds => ∃ ns : List Int, ds = ns.map PyData.int ∧ 0 < ns.length ∧ ∀ m, m ∈ ns → (∀ y ∈ ns, y ≤ m) → R (.int m)
  | _ => False
def pMin : PN := one fun x R => match x with
  | .list ds => ∃ ns : List Int, ds = ns.map PyData.int ∧ 0 < ns.length ∧ ∀ m, m ∈ ns → (∀ y ∈ ns, m ≤ y) → R (.int m)
  | _ => False
def pAll : PN := one fun x R => match x with
  | .list ds => ∃ bs : List Bool, ds = bs.map PyData.bool ∧ R (.bool (bs.all id))
  | _ => False
def pAny : PN := one fun x R => match x with
  | .list ds => ∃ bs : List Bool, ds = bs.map PyData.bool ∧ R (.bool (bs.any id))
  | _ => False
def pRepr : PN := one fun x R => x.showable = true ∧ x.hasDict = false ∧ x.depth ≤ 60 ∧ x.shown.length ≤ 16000000 ∧ R (.str x.shown)
def tyName : PyData → String
  | .none => "NoneType" | .bool _ => "bool" | .int _ => "int" | .str _ => "str" | .list _ => "list" | .tuple _ => "tuple" | .dict [] => "dict" | .dict (_ :: _) => "object"
def isTy (T : String) (d : PyData) : Bool := tyName d == T || (T == "int" && tyName d == "bool")
def wIsi (T : String) (w : DE) : DE := fun δ R => w δ fun o δ1 => use o δ1 fun x => R (.d (.bool (isTy T x))) δ1
def wRevL (w : DE) : DE := fun δ R => w δ fun o δ1 => use o δ1 fun x => ∃ ds, x = .list ds ∧ R (.d (.list ds.reverse)) δ1
theorem je_glob {x : Str} {v : V} {u : Value} {d : PyData} {pos : Pos} (hg : Gl X x) (hm : X.mg x = some u) (r : RelV v u) (hd : ∀ K G, Dn K G v d) (hdb : (x == ("__debug__" : Str)) = false := by decide) : JE X (.Name x pos) (wC d) := je_c (pe_glob hg hm r hdb) hd
end
end DL
set_option Elab.async false
set_option linter.all false
set_option maxRecDepth 100000
set_option maxHeartbeats 4000000
namespace DL
open PySem PySem.Spec PyProof.Rows L2
variable [Tb]

def bov (B H : Hp) (l : List Addr) : Hp := fun a => if a ∈ l then H a else B a
abbrev DM := DS → (Cell → DS → Prop) → Prop
abbrev DMs := DS → (List Cell → DS → Prop) → Prop
def fps (cs : List Cell) : List Addr := cs.flatMap Cell.fp
inductive CellsOk (K : PySem.W.Frag) (G H : Hp) : List Cell → List V → Prop
  | nil : CellsOk K G H [] []
  | cons {c : Cell} {v : V} {cs : List Cell} {vs : List V} (h : CellOk K G H c (some v)) (hd : ∀ a ∈ c.fp, a ∉ fps cs) (t : CellsOk K G H cs vs) : CellsOk K G H (c :: cs) (v :: vs)
def upMs (K : PySem.W.Frag) (w : DMs) : TA := fun σ H Q => ∃ B G δ R, Rel K B G δ σ H ∧ w δ R ∧ ∀ vs H' G' cs δ', R cs δ' → Same G G' → Rel K (bov B H' (fps cs)) G' δ' σ H' → (∀ a ∈ fps cs, B a = none) → CellsOk K G' H' cs vs → Q vs H'
def upM (K : PySem.W.Frag) (w : DM) : TE := fun σ H Q => ∃ B G δ R, Rel K B G δ σ H ∧ w δ R ∧ ∀ v H' G' c δ', R c δ' → Same G G' → Rel K (bov B H' c.fp) G' δ' σ H' → (∀ a ∈ c.fp, B a = none) → CellOk K G' H' c (some v) → Q v H'
abbrev JM (X : Cx) (e : Expr) (w : DM) : Prop := PE X e (upM X.K w)
abbrev JMs (X : Cx) (es : List Expr) (w : DMs) : Prop := PA X es (upMs X.K w)
theorem bov_nil {B H : Hp} : bov B H [] = B := by funext a; simp [bov]
section
variable {X : Cx} {e : Expr} {es : List Expr} {pos : Pos}
def mE (w : DE) : DM := fun δ R => w δ fun o δ1 => lk o δ1 fun x δ2 => R (.d x) δ2
def mL (w : DL) : DM := fun δ R => w δ fun xs δ1 => ∀ a, R (.ol a xs) δ1
theorem jm_e {w : DE} (h : JE X e w) : JM X e (mE w) := pe_le h fun pins s σ H Q I ⟨B, G, δ, R, rel, hw, k⟩ => ⟨B, G, δ, _, rel, hw, fun v H1 G1 o δ1 r1 s1 rel1 ok1 => by
  obtain ⟨G2, δ2, x, q, s2, rel2, dn⟩ := lk_ok rel1 ok1 r1
  exact k v H1 G2 (.d x) δ2 q (s1.trans s2) (by show Rel X.K (bov B H1 []) G2 δ2 σ H1; rw [bov_nil]; exact rel2) (fun a m => nomatch m) ⟨v, rfl, dn⟩⟩
theorem jm_l {w : DL} (h : JL X e w) : JM X e (mL w) := pe_le h fun pins s σ H Q I ⟨B, G, δ, R, rel, hw, k⟩ => ⟨B, G, δ, _, rel, hw, fun a vs H1 G1 xs δ1 r1 s1 rel1 hB t => by
  have ha : H1 a = some (.lst vs) := rel1.sb _ _ upd_same
  have e : bov B H1 [a] = upd B a (.lst vs) := by
    funext b
    unfold bov upd
    by_cases hb : b = a
    · subst hb; simp [ha]
    · simp [hb]
  exact k (.ref a) H1 G1 (.ol a xs) δ1 (r1 a) s1 (by show Rel X.K (bov B H1 [a]) G1 δ1 σ H1; rw [e]; exact rel1) (fun b m => by rw [List.mem_singleton.mp m]; exact hB) ⟨rfl, vs, ha, t⟩⟩
def msNil : DMs := fun δ R => R [] δ
def msCons (w : DM) (r : DMs) : DMs := fun δ R => w δ fun c δ1 => r δ1 fun cs δ2 => R (c :: cs) δ2
theorem jms_nil : JMs X [] msNil := pa_le pa_nil fun pins s σ H Q I ⟨B, G, δ, R, rel, hw, k⟩ => k [] H G [] δ hw (Same.refl _) (by show Rel X.K (bov B H []) G δ σ H; rw [bov_nil]; exact rel) (fun a m => nomatch m) .nil
theorem jms_cons {w : DM} {r : DMs} (ha : JM X e w) (hr : JMs X es r) (hs : starEach (e :: es) X.env = (false, eval e X.env) :: starEach es X.env := by rfl) : JMs X (e :: es) (msCons w r) :=
  pa_le (pa_cons ha hr hs) fun pins s σ H Q I ⟨B, G, δ, R, rel, hw, k⟩ =>
    ⟨B, G, δ, _, rel, hw, fun v H1 G1 c δ1 r1 s1 rel1 hB1 ok1 => ⟨bov B H1 c.fp, G1, δ1, _, rel1, r1, fun vs H2 G2 cs δ2 r2 s2 rel2 hB2 ok2 => by
      have off : ∀ a ∈ c.fp, a ∉ fps cs := fun a m m2 => by
        have z := hB2 a m2
        unfold bov at z
        rw [if_pos m] at z
        obtain ⟨o, eo⟩ := cell_tr (K := X.K) (G := G1) ok1 m
        rw [eo] at z; cases z
      have same : ∀ a ∈ c.fp, H2 a = H1 a := fun a m => by
        obtain ⟨o, eo⟩ := cell_tr (K := X.K) (G := G1) ok1 m
        have z : bov (bov B H1 c.fp) H2 (fps cs) a = some o := by
          unfold bov
          rw [if_neg (off a m), if_pos m]; exact eo
        rw [rel2.sb _ _ z, eo]
      have eb : bov (bov B H1 c.fp) H2 (fps cs) = bov B H2 (fps (c :: cs)) := by
        funext a
        unfold bov
        by_cases h1 : a ∈ fps cs
        · have h3 : a ∈ fps (c :: cs) := by unfold fps; rw [List.flatMap_cons]; exact List.mem_append_right _ h1
          rw [if_pos h1, if_pos h3]
        · by_cases h2 : a ∈ c.fp
          · have h3 : a ∈ fps (c :: cs) := by unfold fps; rw [List.flatMap_cons]; exact List.mem_append_left _ h2
            rw [if_neg h1, if_pos h2, if_pos h3, same a h2]
          · have h3 : a ∉ fps (c :: cs) := by
              unfold fps; rw [List.flatMap_cons]; intro m
              rcases List.mem_append.mp m with m | m
              · exact h2 m
              · exact h1 m
            rw [if_neg h1, if_neg h2, if_neg h3]
      refine k (v :: vs) H2 G2 (c :: cs) δ2 r2 (s1.trans s2) (eb ▸ rel2) (fun a m => ?_) (.cons (ok1.stay s2 same) off ok2)
      unfold fps at m
      rw [List.flatMap_cons] at m
      rcases List.mem_append.mp m with m | m
      · exact hB1 a m
      · have z := hB2 a m
        unfold bov at z
        split at z
        · rename_i hm
          exact absurd m (off a hm)
        · exact z⟩⟩
end

section
variable {K : PySem.W.Frag} {B G H : Hp} {δ : DS} {σ : L2.St}
theorem Rel.store {c : Cell} {v : V} {i : Nat} {l : List Addr} (R : Rel K (bov B H (c.fp ++ l)) G δ σ H) (hB : ∀ a ∈ c.fp, B a = none) (hl : ∀ a ∈ c.fp, a ∉ l) (ok : CellOk K G H c (some v)) : Rel K (bov B H l) G (δ.set i c) (σ.set i (some v)) H := by
  have tr : ∀ a ∈ c.fp, ∃ o, H a = some o := fun a m => cell_tr ok m
  have bg : ∀ a ∈ c.fp, G a = none := fun a m => by
    rcases R.dj a with z | z
    · exact z
    · obtain ⟨o, eo⟩ := tr a m
      unfold bov at z
      rw [if_pos (List.mem_append_left _ m), eo] at z; cases z
  have bn : ∀ a ∈ c.fp, bov B H l a = none := fun a m => by
    unfold bov; rw [if_neg (hl a m)]; exact hB a m
  have sub : Same (bov B H l) H := fun a o z => by
    unfold bov at z
    split at z
    · exact z
    · by_cases m : a ∈ c.fp
      · rw [hB a m] at z; cases z
      · refine R.sb a o ?_
        unfold bov
        split
        · rename_i hm
          rcases List.mem_append.mp hm with q | q
          · exact absurd q m
          · rename_i hn; exact absurd q hn
        · exact z
  have R' : Rel K (bov B H l) G δ σ H := by
    refine ⟨R.len, R.sg, sub, fun a => ?_, R.ok, R.ap, fun i c' a e m => ?_, ⟨R.tt.t, ⟨fun a o e => ?_, R.tt.n.g⟩⟩⟩
    · rcases R.dj a with z | z
      · exact .inl z
      · by_cases m : a ∈ c.fp
        · exact .inr (bn a m)
        · refine .inr ?_
          unfold bov at z ⊢
          split
          · rename_i hm
            rw [if_pos (List.mem_append_right _ hm)] at z; exact z
          · rename_i hm
            rw [if_neg] at z
            · exact z
            · intro q
              rcases List.mem_append.mp q with q | q
              · exact m q
              · exact hm q
    · obtain ⟨f1, f2⟩ := R.fr i c' a e m
      refine ⟨f1, ?_⟩
      by_cases m2 : a ∈ c.fp
      · exact bn a m2
      · unfold bov at f2 ⊢
        split
        · rename_i hm
          rw [if_pos (List.mem_append_right _ hm)] at f2; exact f2
        · rename_i hm
          rw [if_neg] at f2
          · exact f2
          · intro q
            rcases List.mem_append.mp q with q | q
            · exact m2 q
            · exact hm q
    · unfold bov at e
      split at e
      · rename_i hm
        exact R.tt.n.b a o (by unfold bov; rw [if_pos (List.mem_append_right _ hm)]; exact e)
      · rename_i hm
        by_cases m2 : a ∈ c.fp
        · exact absurd e (by rw [hB a m2]; simp)
        · refine R.tt.n.b a o ?_
          unfold bov
          rw [if_neg fun q => (List.mem_append.mp q).elim m2 hm]
          exact e
  refine R'.set ok fun a m => ⟨⟨bg a m, bn a m⟩, fun j c' hj e m' => ?_⟩
  obtain ⟨_, f2⟩ := R.fr j c' a e m'
  obtain ⟨o, eo⟩ := tr a m
  unfold bov at f2
  rw [if_pos (List.mem_append_left _ m), eo] at f2; cases f2
end

structure DEnds where
  nx : DS → Prop
  rt : PyData → DS → Prop
  bk : DS → Prop := fun _ => False
  ct : DS → Prop := fun _ => False
abbrev DTS := DEnds → DS → Prop
structure EndsOk (K : PySem.W.Frag) (B G : Hp) (E : DEnds) (D : Ends) : Prop where
  nx : ∀ σ' H' G' δ', E.nx δ' → Same G G' → Rel K B G' δ' σ' H' → D.nx σ' H'
  rt : ∀ v σ' H' G' x δ', E.rt x δ' → Same G G' → Rel K B G' δ' σ' H' → Dn K G' v x → D.rt v H'
  bk : ∀ σ' H' G' δ', E.bk δ' → Same G G' → Rel K B G' δ' σ' H' → D.bk σ' H'
  ct : ∀ σ' H' G' δ', E.ct δ' → Same G G' → Rel K B G' δ' σ' H' → D.ct σ' H'
theorem EndsOk.mono {K : PySem.W.Frag} {B G G' : Hp} {E : DEnds} {D : Ends} (h : EndsOk K B G E D) (s : Same G G') : EndsOk K B G' E D :=
  ⟨fun σ' H' G2 δ' r s2 => h.nx σ' H' G2 δ' r (s.trans s2), fun v σ' H' G2 x δ' r s2 => h.rt v σ' H' G2 x δ' r (s.trans s2), fun σ' H' G2 δ' r s2 => h.bk σ' H' G2 δ' r (s.trans s2), fun σ' H' G2 δ' r s2 => h.ct σ' H' G2 δ' r (s.trans s2)⟩
def upS (K : PySem.W.Frag) (w : DTS) : TS := fun D σ H => ∃ B G δ E, Rel K B G δ σ H ∧ w E δ ∧ EndsOk K B G E D
abbrev JS (X : Cx) (st : Stmt) (w : DTS) : Prop := PS X st (upS X.K w)
abbrev JSs (X : Cx) (st : List Stmt) (w : DTS) : Prop := PSs X st (upS X.K w)
section
variable {X : Cx} {st : Stmt} {rest : List Stmt} {e : Expr} {pos : Pos}
theorem ps_le {t t' : TS} (h : PS X st t) (l : ∀ pins s σ H D, Inv X pins σ H s → t' D σ H → t D σ H) : PS X st t' := ⟨fun pins s σ H D I q => h.run pins s σ H D I (l pins s σ H D I q)⟩
theorem pss_le {t t' : TS} (h : PSs X rest t) (l : ∀ pins s σ H D, Inv X pins σ H s → t' D σ H → t D σ H) : PSs X rest t' := ⟨fun pins s σ H D I q => h.run pins s σ H D I (l pins s σ H D I q)⟩
def wNext : DTS := fun E δ => E.nx δ
def wSeq (t u : DTS) : DTS := fun E δ => t { E with nx := u E } δ
theorem jss_nil : JSs X [] wNext := pss_le pss_nil fun pins s σ H D I ⟨B, G, δ, E, rel, hw, k⟩ => k.nx σ H G δ hw (Same.refl _) rel
theorem jss_cons {t u : DTS} (h1 : JS X st t) (h2 : JSs X rest u) : JSs X (st :: rest) (wSeq t u) := pss_le (pss_cons h1 h2) fun pins s σ H D I ⟨B, G, δ, E, rel, hw, k⟩ =>
  ⟨B, G, δ, _, rel, hw, ⟨fun σ' H' G' δ' r s1 rel1 => ⟨B, G', δ', E, rel1, r, k.mono s1⟩, k.rt, k.bk, k.ct⟩⟩
theorem jss_one {t : DTS} (h : JS X st t) : JSs X [st] t := pss_one h
def wBrk : DTS := fun E δ => E.bk δ
def wCnt : DTS := fun E δ => E.ct δ
def wRet (w : DE) : DTS := fun E δ => w δ fun o δ1 => lk o δ1 fun x δ2 => E.rt x δ2
theorem js_ret {w : DE} (h : JE X e w) : JS X (.Return (some e) pos) (wRet w) := ps_le (ps_ret h) fun pins s σ H D I ⟨B, G, δ, E, rel, hw, k⟩ => ⟨B, G, δ, _, rel, hw, fun v H1 G1 o δ1 r1 s1 rel1 ok1 => by
  obtain ⟨G2, δ2, x, q, s2, rel2, dn⟩ := lk_ok rel1 ok1 r1
  exact k.rt v σ H1 G2 x δ2 q (s1.trans s2) rel2 dn⟩
def wRetN : DTS := fun E δ => E.rt .none δ
def wIf (c : DT) (t u : DTS) : DTS := fun E δ => c δ fun b δ1 => if b = true then t E δ1 else u E δ1
theorem js_if {c : Expr} {p q : List Stmt} {tc : DT} {t u : DTS} (hc : JT X c tc) (hp : JSs X p t) (hq : JSs X q u) : JS X (.If c p q pos) (wIf tc t u) := ps_le (ps_if hc hp hq) fun pins s σ H D I ⟨B, G, δ, E, rel, hw, k⟩ => ⟨B, G, δ, _, rel, hw, fun b H1 G1 δ1 r1 s1 rel1 => by
  cases b with
  | true => rw [if_pos rfl] at r1 ⊢; exact ⟨B, G1, δ1, E, rel1, r1, k.mono s1⟩
  | false => rw [if_neg Bool.false_ne_true] at r1 ⊢; exact ⟨B, G1, δ1, E, rel1, r1, k.mono s1⟩⟩
def wNever : DTS := fun _ _ => False
def wDrop (w : DE) : DTS := fun E δ => w δ fun _ δ1 => E.nx δ1
def wSet (i : Nat) (w : DM) : DTS := fun E δ => w δ fun c δ1 => E.nx (δ1.set i c)
theorem js_set {i : Nat} {x : Str} {w : DM} {pos' : Pos} (hN : X.N.Nodup) (hi : X.N[i]? = some x) (hx : Loc X.env.scope x) (he : JM X e w) (hs : swapsWith e (some (.Name x pos')) pos.line X.env = pure false := by rfl) (hf : X.fn x = true ∨ X.env.scope.names.lookup x = some .local := by first | exact .inl rfl | exact .inr rfl | assumption) :
    JS X (.Assign [.Name x pos'] e pos) (wSet i w) := ps_le (ps_set hN hi hx he hs hf) fun pins s σ H D I ⟨B, G, δ, E, rel, hw, k⟩ => ⟨B, G, δ, _, rel, hw, fun v H1 G1 c δ1 r1 s1 rel1 hB ok1 => by
  have R2 := Rel.store (i := i) (l := []) (by rw [List.append_nil]; exact rel1) hB (fun _ _ m => nomatch m) ok1
  rw [bov_nil] at R2
  exact k.nx _ H1 G1 _ r1 s1 R2⟩
def wPar2 (i j : Nat) (w : DMs) : DTS := fun E δ => w δ fun cs δ1 => ∃ c d, cs = [c, d] ∧ E.nx ((δ1.set i c).set j d)
theorem js_par2 {i j : Nat} {x y : Str} {a b : Expr} {w : DMs} {px py pt : Pos} {kt k2 pt2} (hc : X.calm = true) (hN : X.N.Nodup) (hi : X.N[i]? = some x) (hj : X.N[j]? = some y) (hij : i ≠ j) (hx : X.env.scope.names.lookup x = some .local) (hy : X.env.scope.names.lookup y = some .local) (ha : JMs X [a, b] w)
    (hw : swappedStores [.Tuple [.Name x px, .Name y py] kt pt] (.Tuple [a, b] k2 pt2) X.env = pure (some [x, y]) := by rfl) (hs : swapsWithSole [.Tuple [.Name x px, .Name y py] kt pt] (.Tuple [a, b] k2 pt2) pos.line X.env = pure false := by rfl) :
    JS X (.Assign [.Tuple [.Name x px, .Name y py] kt pt] (.Tuple [a, b] k2 pt2) pos) (wPar2 i j w) := ps_le (ps_par hc hN hi hj hij hx hy ha hw hs) fun pins s σ H D I ⟨B, G, δ, E, rel, hw, k⟩ => ⟨B, G, δ, _, rel, hw, fun vs H1 G1 cs δ1 r1 s1 rel1 hB ok1 => by
  obtain ⟨c, d, rfl, q⟩ := r1
  cases ok1 with
  | cons h1 d1 t1 =>
    cases t1 with
    | cons h2 d2 t2 =>
      cases t2
      rename_i v u
      refine ⟨v, u, rfl, ?_⟩
      have e : fps [c, d] = c.fp ++ (d.fp ++ []) := by simp [fps]
      rw [e] at rel1
      have R2 := Rel.store (i := i) rel1 (fun a m => hB a (by simp [fps, m])) (fun a m => by have := d1 a m; simpa [fps] using this) h1
      have R3 := Rel.store (i := j) R2 (fun a m => hB a (by simp [fps, m])) (fun a m z => nomatch z) h2
      rw [bov_nil] at R3
      exact k.nx _ H1 G1 _ q s1 R3⟩
def wAug (i : Nat) (p : P2) (w : DE) : DTS := fun E δ => ∃ x, δ[i]? = some (.d x) ∧ w δ fun o δ1 => use o δ1 fun y => p x y fun z => E.nx (δ1.set i (.d z))
end
end DL
set_option Elab.async false
set_option linter.all false
set_option maxRecDepth 100000
set_option maxHeartbeats 4000000
namespace DL
open PySem PySem.Spec PyProof.Rows L2
variable [Tb]

abbrev DTG := PyData → DS → (DS → Prop) → Prop
abbrev DTGs := List PyData → DS → (DS → Prop) → Prop
def Only (σ σ' : L2.St) (ts : List Nat) : Prop := ∀ vs : List Nat, (∀ t ∈ ts, t ∈ vs) → wipe σ' vs = wipe σ vs
theorem wipe_set {σ : L2.St} {i : Nat} {o : Option V} : ∀ {vs : List Nat}, i ∈ vs → wipe (σ.set i o) vs = wipe σ vs := by
  intro vs
  induction vs with
  | nil => intro h; cases h
  | cons v vs ih =>
    intro h
    unfold wipe
    by_cases hi : i ∈ vs
    · rw [ih hi]
    · have e : i = v := by
        rcases List.mem_cons.mp h with z | z
        · exact z
        · exact absurd z hi
      subst e
      have out : ∀ (σ : L2.St) (ws : List Nat), i ∉ ws → wipe (σ.set i o) ws = (wipe σ ws).set i o := by
        intro σ ws
        induction ws with
        | nil => intro _; rfl
        | cons w ws ih2 =>
          intro hw
          unfold wipe
          rw [ih2 (fun z => hw (List.mem_cons_of_mem _ z)), List.set_comm _ _ (fun z => hw (by rw [z]; exact List.mem_cons_self ..))]
      rw [out σ vs hi, List.set_set]
theorem Only.refl (σ : L2.St) (ts : List Nat) : Only σ σ ts := fun _ _ => rfl
theorem Only.trans {σ σ1 σ2 : L2.St} {ts us : List Nat} (a : Only σ σ1 ts) (b : Only σ1 σ2 us) : Only σ σ2 (ts ++ us) := fun vs h =>
  (b vs fun t m => h t (List.mem_append_right _ m)).trans (a vs fun t m => h t (List.mem_append_left _ m))
def upG (K : PySem.W.Frag) (ts : List Nat) (g : DTG) : TG := fun v σ H Q => ∃ B G δ x R, Rel K B G δ σ H ∧ Dn K G v x ∧ g x δ R ∧ ∀ σ' H' G' δ', R δ' → Same G G' → Rel K B G' δ' σ' H' → Only σ σ' ts → Q σ' H'
abbrev JG (X : Cx) (tg : Expr) (ts : List Nat) (g : DTG) : Prop := PG X tg (upG X.K ts g)
def gN (i : Nat) : DTG := fun x δ R => R (δ.set i (.d x))
def gsNil : DTGs := fun xs δ R => match xs with
  | [] => R δ
  | _ => False
def gsCons (g : DTG) (r : DTGs) : DTGs := fun xs δ R => match xs with
  | x :: xs => g x δ fun δ1 => r xs δ1 R
  | [] => False
def gT (r : DTGs) : DTG := fun x δ R => match x with
  | .tuple xs => r xs δ R
  | _ => False
section
variable {X : Cx} {pos : Pos}
theorem pg_le {tg : Expr} {t t' : TG} (h : PG X tg t) (l : ∀ pins s v σ H Q, Inv X pins σ H s → t' v σ H Q → t v σ H Q) : PG X tg t' := ⟨fun pins s σ H v u Q I r q => h.run pins s σ H v u Q I r (l pins s v σ H Q I q)⟩
theorem jg_name {i : Nat} {x : Str} (hN : X.N.Nodup) (hi : X.N[i]? = some x) (hx : Loc X.env.scope x) (hf : X.fn x = true ∨ X.env.scope.names.lookup x = some .local := by first | exact .inl rfl | exact .inr rfl | assumption) : JG X (.Name x pos) [i] (gN i) :=
  pg_le (pg_name hN hi hx hf) fun pins s v σ H Q I ⟨B, G, δ, d, R, rel, dn, hw, k⟩ => k _ H G _ hw (Same.refl _) (rel.setD dn) fun vs h => wipe_set (h i (List.mem_singleton.mpr rfl))
end
def WalkD (K : PySem.W.Frag) (J : It) (G : Hp) (xs : List PyData) : Prop := ∀ (B G2 : Hp) (δ : DS) (σ : L2.St) (H : Hp), Same G G2 → Rel K B G2 δ σ H →
  (∀ i, i < xs.length → J.go i H) ∧ J.stop xs.length H ∧ ∀ i x d H', xs[i]? = some d → J.yld i H x H' → ∃ G3, Same G2 G3 ∧ Rel K B G3 δ σ H' ∧ Dn K G3 x d
def upI (K : PySem.W.Frag) (w : DL) : TI := fun σ H R => ∃ B G δ R', Rel K B G δ σ H ∧ w δ R' ∧ ∀ J H' G' xs δ', R' xs δ' → Same G G' → Rel K B G' δ' σ H' → WalkD K J G' xs → xs.length ≤ sizeLine → R J H'
abbrev JI (X : Cx) (tg iter : Expr) (w : DL) : Prop := PI X tg iter (upI X.K w)
section
variable {X : Cx} {tg : Expr} {pos : Pos}
theorem pi_le {iter : Expr} {t t' : TI} (h : PI X tg iter t) (l : ∀ pins s σ H R, Inv X pins σ H s → t' σ H R → t σ H R) : PI X tg iter t' := ⟨fun pins s σ H R I q => h.run pins s σ H R I (l pins s σ H R I q)⟩
theorem walk_of_list {K : PySem.W.Frag} {G : Hp} {a : Addr} {vs : List V} {xs : List PyData} (h : G a = some (.lst vs)) (t : DnL K G vs xs) (inj : ∀ (B G2 : Hp) (δ : DS) (σ : L2.St) (H : Hp), Same G G2 → Rel K B G2 δ σ H → True) : WalkD K (Itl K a) G xs := fun B G2 δ σ H s rel => by
  have hH : SqL K H a vs := SqL.of (rel.sg _ _ (s _ _ h))
  have hl := t.len
  refine ⟨fun i hi => ⟨vs, vs[i]'(by omega), hH, List.getElem?_eq_getElem (by omega)⟩, ⟨vs, hH, by omega⟩, fun i x d H' hd y => ?_⟩
  obtain ⟨rfl, y⟩ := y
  obtain ⟨v, hv, dv⟩ := t.get hd
  have e := y vs hH
  rw [hv] at e; cases e
  exact ⟨G2, Same.refl _, rel, dv.mono s⟩
theorem walk_of_tup {K : PySem.W.Frag} {G : Hp} {a : Addr} {vs : List V} {xs : List PyData} (h : SqT K G a vs) (t : DnL K G vs xs) : WalkD K (Itt K a) G xs := fun B G2 δ σ H s rel => by
  have hH : SqT K H a vs := sqT_mono rel.sg (sqT_mono s h)
  have hl := t.len
  refine ⟨fun i hi => ⟨vs, vs[i]'(by omega), hH, List.getElem?_eq_getElem (by omega)⟩, ⟨vs, hH, by omega⟩, fun i x d H' hd y => ?_⟩
  obtain ⟨rfl, y⟩ := y
  obtain ⟨v, hv, dv⟩ := t.get hd
  have e := y vs hH
  rw [hv] at e; cases e
  exact ⟨G2, Same.refl _, rel, dv.mono s⟩
def iSeq (w : DE) : DL := fun δ R => w δ fun o δ1 => lk o δ1 fun x δ2 => match x with
  | .tuple xs => R xs δ2
  | .list xs => R xs δ2
  | _ => False
def iEither (K : PySem.W.Frag) (t : TE) : TI := fun σ H R => t σ H fun x H1 => ∃ a, x = .ref a ∧ ((∃ xs, SqL K H1 a xs ∧ R (Itl K a) H1) ∨ (∃ xs, SqT K H1 a xs ∧ R (Itt K a) H1))
theorem pi_either {l : Expr} {tl : TE} (hl : PE X l tl) : PI X tg l (iEither X.K tl) where
  run pins s σ H R I h := by
    refine wpAny_mono (hl.run pins s σ H _ I h) ?_ fun _ _ z => z
    rintro v ⟨hp, gs, dr, tk, os⟩ ⟨_, H1, I1, r1, a, rfl, q⟩
    cases r1
    have own : ∀ b ∈ [hp.objs.size], FpOk X pins H1 b := List.forall_mem_singleton.mpr (I1.fpOk (Nat.le_refl _) (I1.hok.fresh (Nat.le_refl _)))
    have kept : ∀ {o : Obj} b u, hp.get? b = some u → (hp.push o).get? b = some u := fun _ _ e => Heap.get?_push_of_some _ e
    rcases q with ⟨xs, isL, q⟩ | ⟨xs, isT, q⟩
    · obtain ⟨_, _, at_a, _⟩ := I1.list isL
      exact wpAny_pyIter_list at_a.isList ⟨_, _, _, _, H1, rfl, I1.kept (t' := tk) kept, turn_list a _, ⟨_, Heap.get?_push_size _ rfl, rfl, rfl⟩, own, q⟩
    · obtain ⟨its, _, at_a, _⟩ := I1.tuple isT
      exact wpAny_pyIter_tuple (show hp.IsTuple a its.toArray from at_a) ⟨_, _, _, _, H1, rfl, I1.kept (t' := tk) kept, turn_tuple a _, ⟨_, Heap.get?_push_size _ rfl, rfl, rfl⟩, own, q⟩
theorem piB {l : Expr} {w : DE} (h : JE X l w) : PE X l (fun σ H Q => up X.K w σ H fun v H1 => (∀ a xs, v = .ref a → (SqL X.K H1 a xs ∨ SqT X.K H1 a xs) → xs.length ≤ sizeLine) → Q v H1) where
  run pins s σ H Q I q := wpAny_mono (h.run pins s σ H _ I q) (fun v s1 ⟨x, H1, I1, r1, q1⟩ => ⟨x, H1, I1, r1, q1 fun a xs _ hs => hs.elim (fun z => (I1.list z).elim fun _ z => z.2.2) (fun z => (I1.tuple z).elim fun _ z => z.2.2)⟩) fun _ _ z => z
theorem ji_seq {l : Expr} {w : DE} (h : JE X l w) : JI X tg l (iSeq w) := pi_le (pi_either (piB h)) fun pins s σ H R I ⟨B, G, δ, R', rel, hw, k⟩ => ⟨B, G, δ, _, rel, hw, fun v H1 G1 o δ1 r1 s1 rel1 ok1 hz => by
  obtain ⟨G2, δ2, x, q, s2, rel2, dn⟩ := lk_ok rel1 ok1 r1
  cases dn with
  | lst hs t => exact ⟨_, rfl, .inl ⟨_, SqL.of (rel2.sg _ _ hs), k _ H1 G2 _ δ2 q (s1.trans s2) rel2 (walk_of_list hs t fun _ _ _ _ _ _ _ => trivial) (by rw [← t.len]; exact hz _ _ rfl (.inl (SqL.of (rel2.sg _ _ hs))))⟩⟩
  | tup hs t => exact ⟨_, rfl, .inr ⟨_, sqT_mono rel2.sg (hs.sq), k _ H1 G2 _ δ2 q (s1.trans s2) rel2 (walk_of_tup (hs.sq) t) (by rw [← t.len]; exact hz _ _ rfl (.inr (sqT_mono rel2.sg (hs.sq))))⟩⟩
  | _ => exact q.elim⟩
def nums (lo : Int) (n : Nat) : List PyData := (List.range n).map fun (i : Nat) => PyData.int (lo + (i : Int))
theorem walk_of_range {K : PySem.W.Frag} {G : Hp} {lo : Int} {n : Nat} : WalkD K (Itr lo n) G (nums lo n) := fun B G2 δ σ H s rel => by
  have hl : (nums lo n).length = n := by simp [nums]
  refine ⟨fun i hi => by rw [hl] at hi; exact hi, by rw [hl]; exact Nat.le_refl _, fun i x d H' hd y => ?_⟩
  obtain ⟨rfl, rfl⟩ := y
  unfold nums at hd
  rw [List.getElem?_map] at hd
  cases e : (List.range n)[i]? with
  | none => rw [e] at hd; cases hd
  | some j =>
    rw [e] at hd
    obtain ⟨h1, h2⟩ := List.getElem?_eq_some_iff.mp e
    rw [List.getElem_range] at h2
    cases hd
    subst h2
    exact ⟨G2, Same.refl _, rel, Dn.int _⟩
def iRange1 (w : DA) : DL := fun δ R => w δ fun os δ1 => useL os δ1 fun xs => ∃ j, xs = [PyData.int j] ∧ -1000000 ≤ j ∧ j ≤ 1000000 ∧ R (nums 0 j.toNat) δ1
def iRange2 (w : DA) : DL := fun δ R => w δ fun os δ1 => useL os δ1 fun xs => ∃ i j, xs = [PyData.int i, PyData.int j] ∧ (-1000000 ≤ i ∧ i ≤ 1000000 ∧ -1000000 ≤ j ∧ j ≤ 1000000) ∧ R (nums i (j - i).toNat) δ1
theorem nums_len {lo : Int} {n : Nat} : (nums lo n).length = n := by simp [nums]
theorem ji_range1 {a : Expr} {w : DA} {p : Pos} (hg : Gl X "range") (hm : X.mg "range" = none) (ha : JA X [a] w) (hs : starEach [a] X.env = [(false, eval a X.env)] := by rfl) : JI X tg (.Call (.Name "range" p) [a] [] pos) (iRange1 w) :=
  pi_le (pi_range1 hg hm ha hs) fun pins s σ H R I ⟨B, G, δ, R', rel, hw, k⟩ => ⟨B, G, δ, _, rel, hw, fun vs H1 G1 os δ1 r1 s1 rel1 ok1 => by
    obtain ⟨xs, ⟨j, rfl, h1, h2, q⟩, b⟩ := useL_ok rel1 ok1 r1
    obtain ⟨v, rfl, bv⟩ := b.one
    obtain rfl := bor_int bv
    exact ⟨j, rfl, by omega, by omega, k _ H1 G1 _ δ1 q s1 rel1 walk_of_range (by rw [nums_len, sizeLine_eq]; omega)⟩⟩
def pairsD : List PyData → List PyData → List PyData
  | x :: xs, y :: ys => .tuple [x, y] :: pairsD xs ys
  | _, _ => []
end
end DL
set_option Elab.async false
set_option linter.all false
set_option maxRecDepth 100000
set_option maxHeartbeats 4000000
namespace DL
open PySem PySem.Spec PyProof.Rows L2
variable [Tb]

def forIt (g : DTG) (b : DTS) : List PyData → DEnds → DS → Prop
  | [], E, δ => E.nx δ
  | x :: xs, E, δ => g x δ fun δ1 => b { nx := forIt g b xs E, rt := E.rt, bk := E.nx, ct := forIt g b xs E } δ1
def wFor (wi : DL) (g : DTG) (b : DTS) : DTS := fun E δ => wi δ fun xs δ1 => forIt g b xs E δ1
section
variable {X : Cx} {pos : Pos}
theorem js_for {tg iter : Expr} {body : List Stmt} {wi : DL} {g : DTG} {b : DTS} {ts : List Nat} (hp : PassesOwn (model X.prog X.w) X.A X.env X.xe) (hc : X.calm = true) (hi : JI X tg iter wi) (hg : JG X tg ts g) (hb : JSs X body b)
    (hs : ∀ x, foldedSetIterable iter X.env x = pure x := by intro _; rfl) : JS X (.For tg iter body [] pos) (wFor wi g b) := ps_le (ps_for hp hc hi hg hb hs) fun pins s σ H D I ⟨B, G, δ, E, rel, hw, k⟩ => by
  refine ⟨B, G, δ, _, rel, hw, fun J H1 G1 xs δ1 r1 s1 rel1 wk hl => ?_⟩
  refine ⟨fun i m σ' H' => m = xs.length - i ∧ i ≤ xs.length ∧ ∃ G2 δ2, Same G1 G2 ∧ Rel X.K B G2 δ2 σ' H' ∧ forIt g b (xs.drop i) E δ2, ⟨xs.length, by simp, Nat.zero_le _, G1, δ1, Same.refl _, rel1, by simpa using r1⟩, ?_⟩
  rintro i m σ2 H2 ⟨rfl, hi', G2, δ2, s2, rel2, q⟩
  obtain ⟨go, stop, yld⟩ := wk B G2 δ2 σ2 H2 s2 rel2
  by_cases hlt : i < xs.length
  · have ed : xs.drop i = xs[i] :: xs.drop (i + 1) := List.drop_eq_getElem_cons hlt
    rw [ed] at q
    refine .inr ⟨go i hlt, fun σ' H' => ∃ G3 δ3, Same G1 G3 ∧ Rel X.K B G3 δ3 σ' H' ∧ forIt g b (xs.drop (i + 1)) E δ3, fun σ' H' ⟨G3, δ3, s3, rel3, q3⟩ => ⟨xs.length - (i + 1), by omega, rfl, hlt, G3, δ3, s3, rel3, q3⟩, fun x H3 y => ?_⟩
    obtain ⟨G3, s3, rel3, dn⟩ := yld i x _ H3 (List.getElem?_eq_getElem hlt) y
    refine ⟨B, G3, δ2, _, _, rel3, dn, q, fun σ4 H4 G4 δ4 r4 s4 rel4 _ => ?_⟩
    have sa := s1.trans (s2.trans (s3.trans s4))
    exact ⟨B, G4, δ4, _, rel4, r4, ⟨fun σ' H' G5 δ5 r5 s5 rel5 => ⟨G5, δ5, s2.trans (s3.trans (s4.trans s5)), rel5, r5⟩, fun v σ' H' G5 x5 δ5 r5 s5 rel5 d5 => k.rt v σ' H' G5 x5 δ5 r5 (sa.trans s5) rel5 d5,
      fun σ' H' G5 δ5 r5 s5 rel5 => k.nx σ' H' G5 δ5 r5 (sa.trans s5) rel5, fun σ' H' G5 δ5 r5 s5 rel5 => ⟨G5, δ5, s2.trans (s3.trans (s4.trans s5)), rel5, r5⟩⟩⟩
  · have e : i = xs.length := by omega
    subst e
    rw [List.drop_length] at q
    exact .inl ⟨stop, k.nx σ2 H2 G2 δ2 q (s1.trans s2) rel2⟩
def wWhile (c : DT) (b : DTS) : DTS := fun E δ => ∃ W : Nat → DS → Prop, (∃ m, W m δ) ∧ ∀ m δ, W m δ → c δ fun k δ1 => if k = true then b { nx := fun δ' => ∃ m', m' < m ∧ W m' δ', rt := E.rt, bk := E.nx, ct := fun δ' => ∃ m', m' < m ∧ W m' δ' } δ1 else E.nx δ1
end

def wipeD (δ : DS) : List Nat → DS
  | [] => δ
  | v :: vs => (wipeD δ vs).set v .em
def keepC : Cell → Cell
  | .d x => .d x
  | _ => .em
def backD (δ0 δ : DS) : List Nat → DS
  | [] => δ
  | v :: vs => (backD δ0 δ vs).set v (keepC ((δ0[v]?).getD .em))
def compIt (g : DTG) (t : DT) (e : DE) (vs : List Nat) : List PyData → List PyData → DS → (List PyData → DS → Prop) → Prop
  | [], acc, δ, R => R acc δ
  | x :: xs, acc, δ, R => g x δ fun δ1 => t δ1 fun b δ2 => if b = true then e δ2 fun o δ3 => lk o δ3 fun y δ4 => compIt g t e vs xs (acc ++ [y]) (wipeD δ4 vs) R else compIt g t e vs xs acc (wipeD δ2 vs) R
def wComp (wi : DL) (g : DTG) (t : DT) (e : DE) (vs : List Nat) : DL := fun δ R => wi δ fun xs δ1 => compIt g t e vs xs [] (wipeD δ1 vs) fun ys δ2 => R ys (backD δ1 δ2 vs)
def tT : DT := fun δ R => R true δ
abbrev JTs (X : Cx) (es : List Expr) (w : DT) : Prop := PTs X es (upT X.K w)
section
variable {K : PySem.W.Frag} {B G H : Hp} {δ : DS} {σ : L2.St}
theorem Rel.wipe (R : Rel K B G δ σ H) : ∀ vs : List Nat, Rel K B G (wipeD δ vs) (L2.wipe σ vs) H
  | [] => R
  | v :: vs => (Rel.wipe R vs).clear none
theorem wipeD_em {i : Nat} : ∀ {vs : List Nat} {δ : DS}, i ∈ vs → (wipeD δ vs)[i]? = none ∨ (wipeD δ vs)[i]? = some .em
  | [], _, h => by cases h
  | v :: vs, δ, h => by
    unfold wipeD
    by_cases hv : v = i
    · subst hv
      rw [List.getElem?_set]
      simp only [if_true]
      split
      · exact .inr rfl
      · exact .inl rfl
    · rw [List.getElem?_set_ne hv]
      rcases List.mem_cons.mp h with z | z
      · exact absurd z.symm hv
      · exact wipeD_em z
theorem wipe_at {i : Nat} : ∀ {vs : List Nat} {σ : L2.St}, i ∉ vs → (L2.wipe σ vs)[i]? = σ[i]? := fun h => wipe_out h
theorem Rel.unwipe {vs : List Nat} {σ : L2.St} (R : Rel K B G (wipeD δ vs) (L2.wipe σ vs) H) : Rel K B G (wipeD δ vs) σ H := by
  refine ⟨by rw [← R.len, wipe_length], R.sg, R.sb, R.dj, fun i c o e1 e2 => ?_, R.ap, R.fr, R.tt⟩
  by_cases h : i ∈ vs
  · rcases wipeD_em (δ := δ) h with z | z
    · rw [z] at e1; cases e1
    · rw [z] at e1; cases e1; trivial
  · exact R.ok i c o e1 (by rw [wipe_at h]; exact e2)
theorem Rel.back {G0 : Hp} {δ0 : DS} {H0 : Hp} {B0 : Hp} (R : Rel K B G δ σ H) (R0 : Rel K B0 G0 δ0 σ H0) (s : Same G0 G) : ∀ vs : List Nat, Rel K B G (backD δ0 δ vs) σ H
  | [] => R
  | v :: vs => by
    have ih := Rel.back R R0 s vs
    have em : Rel K B G ((backD δ0 δ vs).set v .em) σ H := by
      cases hσ : σ[v]? with
      | some o => exact ih.recell hσ trivial fun a m => nomatch m
      | none =>
        have hl : (backD δ0 δ vs).length ≤ v := by
          rw [← ih.len]; exact List.getElem?_eq_none_iff.mp hσ
        rw [List.set_eq_of_length_le hl]; exact ih
    unfold backD
    cases e : δ0[v]? with
    | none => exact em
    | some c =>
      cases c with
      | d x =>
        obtain ⟨o, hσ, w, rfl, dn⟩ := R0.at e
        exact ih.recell hσ ⟨w, rfl, dn.mono s⟩ fun a m => nomatch m
      | _ => exact em
theorem wipe_wipe (σ : L2.St) (vs : List Nat) : L2.wipe (L2.wipe σ vs) vs = L2.wipe σ vs := by
  have h : ∀ (us : List Nat) (σ : L2.St), (∀ u ∈ us, u ∈ vs) → L2.wipe (L2.wipe σ us) vs = L2.wipe σ vs := by
    intro us
    induction us with
    | nil => intro σ _; rfl
    | cons u us ih =>
      intro σ hu
      show L2.wipe ((L2.wipe σ us).set u none) vs = _
      rw [wipe_set (hu u (List.mem_cons_self ..)), ih σ fun x m => hu x (List.mem_cons_of_mem _ m)]
  exact h vs σ fun _ m => m
end
section
variable {X : Cx} {pos : Pos}
theorem jts_nil : JTs X [] tT := ⟨fun pins s σ H Q I ⟨B, G, δ, R, rel, hw, k⟩ => pts_nil.run pins s σ H Q I (k true H G δ hw (Same.refl _) rel)⟩
theorem jts_one {c : Expr} {t : DT} (h : JT X c t) : JTs X [c] t := pts_one h
theorem comp_up {wi : DL} {g : DTG} {t : DT} {e : DE} {ts vs : List Nat} {K : PySem.W.Frag} {σ : L2.St} {H : Hp} {Q : VK} (hts : ∀ t ∈ ts, t ∈ vs) (h : upL K (wComp wi g t e vs) σ H Q) : tLc (upI K wi) (upG K ts g) (upT K t) (up K e) vs σ H Q := by
  obtain ⟨B, G, δ, R, rel, hw, k⟩ := h
  refine ⟨B, G, δ, _, rel, hw, fun J H1 G1 xs δ1 r1 s1 rel1 wk hl D nD => ?_⟩
  have bD := rel1.freeB nD
  refine ⟨fun i m H' => m = xs.length - i ∧ i ≤ xs.length ∧ ∃ accV accD G2 δ2, Same G1 G2 ∧ Rel K (upd B D (.lst accV)) G2 (wipeD δ2 vs) (wipe σ vs) H' ∧ DnL K G2 accV accD ∧ accV.length ≤ i ∧ compIt g t e vs (xs.drop i) accD (wipeD δ2 vs) (fun ys δ2 => R ys (backD δ1 δ2 vs)),
    ⟨xs.length, by simp, Nat.zero_le _, [], [], G1, δ1, Same.refl _, (rel1.growB nD).wipe vs, .nil, Nat.zero_le _, by simpa using r1⟩, ?_⟩
  rintro i m H2 ⟨rfl, hi, accV, accD, G2, δ2, s2, rel2, dacc, hal, q⟩
  obtain ⟨go, stop, yld⟩ := wk _ G2 _ _ H2 s2 rel2
  by_cases hlt : i < xs.length
  · have ed : xs.drop i = xs[i] :: xs.drop (i + 1) := List.drop_eq_getElem_cons hlt
    rw [ed] at q
    refine .inr ⟨go i hlt, fun H' => ∃ accV accD G3 δ3, Same G1 G3 ∧ Rel K (upd B D (.lst accV)) G3 (wipeD δ3 vs) (wipe σ vs) H' ∧ DnL K G3 accV accD ∧ accV.length ≤ i + 1 ∧ compIt g t e vs (xs.drop (i + 1)) accD (wipeD δ3 vs) (fun ys δ2 => R ys (backD δ1 δ2 vs)),
      fun H' ⟨a1, a2, a3, a4, a5, a6, a7, a8, a9⟩ => ⟨xs.length - (i + 1), by omega, rfl, hlt, a1, a2, a3, a4, a5, a6, a7, a8, a9⟩, fun x H3 y => ?_⟩
    obtain ⟨G3, s3, rel3, dn⟩ := yld i x _ H3 (List.getElem?_eq_getElem hlt) y
    refine ⟨_, G3, _, _, _, rel3, dn, q, fun σ4 H4 G4 δ4 r4 s4 rel4 ho => ?_⟩
    have ew : wipe σ4 vs = wipe σ vs := by rw [ho vs hts, wipe_wipe]
    refine ⟨ew, _, G4, δ4, _, rel4, r4, fun b H5 G5 δ5 r5 s5 rel5 => ?_⟩
    cases b with
    | false =>
      rw [if_neg Bool.false_ne_true] at r5 ⊢
      have R6 := rel5.wipe vs
      rw [ew] at R6
      exact ⟨accV, accD, G5, δ5, s2.trans (s3.trans (s4.trans s5)), R6, DnL.mono (s3.trans (s4.trans s5)) _ dacc, by omega, r5⟩
    | true =>
      rw [if_pos rfl] at r5 ⊢
      refine ⟨_, G5, δ5, _, rel5, r5, fun v H6 G6 o δ6 r6 s6 rel6 ok6 => ?_⟩
      obtain ⟨G7, δ7, z, q7, s7, rel7, dz⟩ := lk_ok rel6 ok6 r6
      refine ⟨accV, rel7.sb _ _ upd_same, by omega, accV ++ [v], accD ++ [z], G7, δ7, s2.trans (s3.trans (s4.trans (s5.trans (s6.trans s7)))), ?_, (DnL.mono (s3.trans (s4.trans (s5.trans (s6.trans s7)))) _ dacc).app (.cons dz .nil), by simp; omega, q7⟩
      have R8 := (rel7.putB (p := D) (o := .lst (accV ++ [v])) upd_same notTE_lst).wipe vs
      rw [upd_upd, ew] at R8
      exact R8
  · have e1 : i = xs.length := by omega
    subst e1
    rw [List.drop_length] at q
    refine .inl ⟨stop, ?_⟩
    exact k D accV H2 G2 accD _ q (s1.trans s2) (rel2.unwipe.back rel1 s2 vs) bD dacc
theorem jl_comp {elt tg iter : Expr} {ifs : List Expr} {scope : Scope} {own : List (Str × Nat)} {wi : DL} {g : DTG} {t : DT} {e : DE} {ts : List Nat} (hc : X.calm = true) (hN : X.N.Nodup) (hi : JI X tg iter wi) (ok : BlkOk X.N X.env.scope scope own) (hts : ∀ t ∈ ts, t ∈ own.map (·.2))
    (hg : ∀ (s : Shared) (H : Hp) (C : Addr) (cl : List (Str × Addr)) (fp : List Addr), JG (X.blk s H scope (compEnvC scope cl C X.env) fp) tg ts g) (ht : ∀ (s : Shared) (H : Hp) (C : Addr) (cl : List (Str × Addr)) (fp : List Addr), JTs (X.blk s H scope (compEnvC scope cl C X.env) fp) ifs t)
    (he : ∀ (s : Shared) (H : Hp) (C : Addr) (cl : List (Str × Addr)) (fp : List Addr), JE (X.blk s H scope (compEnvC scope cl C X.env) fp) elt e) (hs : ∀ x, foldedSetIterable iter X.env x = pure x := by intro _; rfl) :
    JL X (.ListComp elt [⟨tg, iter, ifs, 0⟩] scope pos) (wComp wi g t e (own.map (·.2))) :=
  pe_le (pe_lc hc hN hi ok hg ht he hs) fun _ _ _ _ _ _ h => comp_up hts h
theorem upM_l {w : DL} {K : PySem.W.Frag} {σ : L2.St} {H : Hp} {Q : VK} (h : upM K (mL w) σ H Q) : upL K w σ H Q := by
  obtain ⟨B, G, δ, R, rel, hw, k⟩ := h
  refine ⟨B, G, δ, _, rel, hw, fun a vs H1 G1 xs δ1 r1 s1 rel1 hB t => ?_⟩
  have ha : H1 a = some (.lst vs) := rel1.sb _ _ upd_same
  have e : bov B H1 [a] = upd B a (.lst vs) := by
    funext b
    unfold bov upd
    by_cases hb : b = a
    · subst hb; simp [ha]
    · simp [hb]
  exact k (.ref a) H1 G1 (.ol a xs) δ1 (r1 a) s1 (by show Rel K (bov B H1 [a]) G1 δ1 σ H1; rw [e]; exact rel1) (fun b m => by rw [List.mem_singleton.mp m]; exact hB) ⟨rfl, vs, ha, t⟩
theorem js_asg {st : Stmt} {i : Nat} {te : TE} {w : DM} (h : PS X st (tAsg te (gName i))) (l : ∀ σ H Q, upM X.K w σ H Q → te σ H Q) : JS X st (wSet i w) := ps_le h fun pins s σ H D I ⟨B, G, δ, E, rel, hw, k⟩ => by
  refine l σ H _ ⟨B, G, δ, _, rel, hw, fun v H1 G1 c δ1 r1 s1 rel1 hB ok1 => ?_⟩
  have R2 := Rel.store (i := i) (l := []) (by rw [List.append_nil]; exact rel1) hB (fun _ _ m => nomatch m) ok1
  rw [bov_nil] at R2
  exact k.nx _ H1 G1 _ r1 s1 R2
theorem js_setCL {i : Nat} {y : Str} {py spos : Pos} {elt tg iter : Expr} {ifs : List Expr} {scope : Scope} {own : List (Str × Nat)} {wi : DL} {g : DTG} {t : DT} {e : DE} {ts : List Nat} (hc : X.calm = true) (hN : X.N.Nodup) (hy : X.N[i]? = some y) (hyl : X.env.scope.names.lookup y = some .local)
    (hsw : swapsWith (.ListComp elt [⟨tg, iter, ifs, 0⟩] scope pos) (some (.Name y py)) spos.line X.env = pure true) (hi : JI X tg iter wi) (ok : BlkOk X.N X.env.scope scope own) (hts : ∀ t ∈ ts, t ∈ own.map (·.2))
    (hg : ∀ (s : Shared) (H : Hp) (C : Addr) (cl : List (Str × Addr)) (fp : List Addr), JG (X.blk s H scope (compEnvC scope cl C X.env) fp) tg ts g) (ht : ∀ (s : Shared) (H : Hp) (C : Addr) (cl : List (Str × Addr)) (fp : List Addr), JTs (X.blk s H scope (compEnvC scope cl C X.env) fp) ifs t)
    (he : ∀ (s : Shared) (H : Hp) (C : Addr) (cl : List (Str × Addr)) (fp : List Addr), JE (X.blk s H scope (compEnvC scope cl C X.env) fp) elt e) (hs : ∀ x, foldedSetIterable iter X.env x = pure x := by intro _; rfl) :
    JS X (.Assign [.Name y py] (.ListComp elt [⟨tg, iter, ifs, 0⟩] scope pos) spos) (wSet i (mL (wComp wi g t e (own.map (·.2))))) :=
  js_asg (ps_setLc hc hN hy hyl hsw hi ok hg ht he hs) fun σ H Q h => comp_up hts (upM_l h)
def isOl (δ : DS) (i : Nat) : Prop := ∃ a xs, δ[i]? = some (.ol a xs)
def wAppend (i : Nat) (w : DE) : DTS := fun E δ => isOl δ i ∧ w δ fun o δ1 => lk o δ1 fun y δ2 => match δ2[i]? with
  | some (.ol a xs) => xs.length ≤ 1000000 ∧ E.nx (δ2.set i (.ol a (xs ++ [y])))
  | _ => False
def wExtend (i : Nat) (w : DE) : DTS := fun E δ => isOl δ i ∧ w δ fun o δ1 => use o δ1 fun y => ∃ ys, y = .list ys ∧ match δ1[i]? with
  | some (.ol a xs) => xs.length + ys.length ≤ 1000000 ∧ E.nx (δ1.set i (.ol a (xs ++ ys)))
  | _ => False
def wPut (i : Nat) (we wi : DE) : DTS := fun E δ => we δ fun o δ1 => lk o δ1 fun y δ2 => isOl δ2 i ∧ wi δ2 fun oj δ3 => use oj δ3 fun j => match j, δ3[i]? with
  | .int j, some (.ol a xs) => ∃ n, ixN xs.length j = some n ∧ E.nx (δ3.set i (.ol a (xs.set n y)))
  | _, _ => False
def wPop (i : Nat) : DE := fun δ R => match δ[i]? with
  | some (.ol a xs) => ∃ y, xs.getLast? = some y ∧ R (.d y) (δ.set i (.ol a xs.dropLast))
  | _ => False
end
end DL
set_option Elab.async false
set_option linter.all false
set_option maxRecDepth 100000
set_option maxHeartbeats 4000000
namespace DL
open PySem PySem.Spec PyProof.Rows L2
variable [Tb]

structure RoomG (k : Nat) (A : Around) : Prop where
  rm : Room k A
  gd : A.guards = some []
theorem RoomG.mono {j k : Nat} {A : Around} (r : RoomG k A) (h : j ≤ k) : RoomG j A := ⟨r.rm.mono h, r.gd⟩
theorem RoomG.deeper {k : Nat} {A : Around} (r : RoomG (k + 1) A) (env : Env) : RoomG k (A.deeper env) := ⟨r.rm.deeper env, r.gd⟩
theorem RoomG.u64 {k : Nat} {A : Around} (r : RoomG k A) : A.units + 64 < cLine := r.rm.units
structure FnG (P : Program) (w : World) (K : PySem.W.Frag) (mg : Str → Option Value) (base : Heap) (CX : CXT) (k : Nat) (f : Addr) (fd : FuncData) (ps : List Str) (sp : Sp) : Prop where
  len (vs : List V) (H : Hp) (Q : VK) (E : XK) (_ : sp vs H Q E) : vs.length = ps.length
  run : ∀ (A : Around) (outer : List Env) (s : Shared) (H : Hp) (args : Args) (us : List Value) (vs : List V) (Q : VK) (E : XK), RoomG k A → Env0 P w K mg base A outer s H →
    BindsTo s fd args (ps.zip us) → Vals vs us → sp vs H Q E → codeAny (model P w) A (.call (.ref f) args) (CR CX outer P w H s Q E) s
section
variable {P : Program} {w : World} {K : PySem.W.Frag} {mg : Str → Option Value} {base : Heap} {CX : CXT}
theorem FnG.mono {j k : Nat} {f : Addr} {fd : FuncData} {ps : List Str} {sp : Sp} (F : FnG P w K mg base CX j f fd ps sp) (h : j ≤ k) : FnG P w K mg base CX k f fd ps sp :=
  ⟨F.len, fun A outer s H args us vs Q E hr => F.run A outer s H args us vs Q E (hr.mono h)⟩
theorem fnG_of {k : Nat} {f : Addr} {name qual : Str} {params : Arguments} {body : List Stmt} {scope : Scope} {dV kV doc pm cdv ct oc : Value} {an od : Option Addr} {osl : Array (Option Value)} {N ps : List Str} {sp : Sp}
    (lk : K.lookup f = some ⟨oc, od, .func (PySem.W.fnOf name qual params body scope dV kV doc pm an cdv ct), osl⟩) (hcd : PySem.W.codeIn K cdv qual = true) (S : FnScope N ps scope) (len : ∀ vs H Q E, sp vs H Q E → vs.length = ps.length)
    (hbody : ∀ (A : Around) (outer : List Env) (s : Shared) (H : Hp) (vs : List V) (Q : VK) (E : XK), RoomG k (A.deeper (envOfC qual scope s.heap.objs.size f cdv)) → sp vs H Q E →
      ∃ t, PSs (cxOf CX P w K mg base N qual scope f cdv A outer s H E) body t ∧ t { nx := fun _ H' => Q .non H', rt := Q } (L2.start N vs) H) : FnG P w K mg base CX (k + 1) f (PySem.W.fnOf name qual params body scope dV kV doc pm an cdv ct) ps sp := by
  refine ⟨len, ?_⟩
  intro A outer s H args us vs Q E room e0 binds r hsp
  have many : vs.length = ps.length := len _ _ _ _ hsp
  have kept : ∀ b o, base.get? b = some o → s.heap.get? b = some o := fun b o e => (e0.bs b o e).1
  have kinds : ∀ y ∈ ps.zip us, scope.names.lookup y.1 = some .local ∨
      (scope.names.lookup y.1 = some .cell ∧ ((cellsFrom (s.heap.objs.size + 1) scope.names []).lookup y.1).isSome = true) := by
    rintro ⟨n, v⟩ m
    rcases S.par n (List.of_mem_zip m).1 with q | q
    · exact .inl q
    · exact .inr ⟨q, PySem.W.cellsFrom_some _ _ _ (.inl q)⟩
  have kin := e0.mod.kin.keeps kept
  refine codeAny_call_function room.rm.depth (kin _ _ lk) rfl S.co S.gen rfl (PySem.W.codeRec_of kin hcd) (binds _ _ _ _ (wpAny_newFunctionEnv_cells S.kind kinds ?_))
  rintro _ rfl s1 made
  obtain ⟨t, body', ht⟩ := hbody A outer s H vs Q E (room.deeper _) hsp
  refine ⟨(e0.mod.nolimit.keeps kept).keeps made.toInCall.keep, codeAny_func (wpAny_mono (body'.run [] s1 (L2.start N vs) H _ (inv_start (CX := CX) (E := E) (N := N) (qual := qual) (f := f) (cd := cdv) S room.rm.hd e0 many r made) ht) ?_ fun _ _ z => z)⟩
  rintro (_ | _ | _ | u) s' g
  · obtain ⟨_, H', J, q⟩ := g; exact ⟨V.non, H', J.os, J.bare, J.base, J.hok, rfl, q⟩
  · exact g.elim fun _ g => g.elim fun _ g => g.2.elim
  · exact g.elim fun _ g => g.elim fun _ g => g.2.elim
  · obtain ⟨v, _, H', J, rv, q⟩ := g; exact ⟨v, H', J.os, J.bare, J.base, J.hok, rv, q⟩
end

abbrev DSp := List Cell → (PyData → List Cell → Prop) → Prop
def liftSp (K : PySem.W.Frag) (sp : DSp) : Sp := fun vs H Q _ => ∃ B G cs R, Rel K B G cs (vs.map some) H ∧ sp cs R ∧ ∀ v H' G' x cs', R x cs' → Same G G' → Rel K B G' cs' (vs.map some) H' → Dn K G' v x → Q v H'
def outC : List Cell → DS → List Cell
  | [], _ => []
  | .d x :: cs, _ :: δ => .d x :: outC cs δ
  | .em :: cs, _ :: δ => .em :: outC cs δ
  | .scr a ns :: cs, _ :: δ => .scr a ns :: outC cs δ
  | .dx a b c xs n ys :: cs, _ :: δ => .dx a b c xs n ys :: outC cs δ
  | _ :: cs, e :: δ => e :: outC cs δ
  | _, [] => []
def sameIo : List Cell → DS → Prop
  | [], _ => True
  | .ol a _ :: cs, e :: δ => (∃ ys, e = .ol a ys) ∧ sameIo cs δ
  | .dk a b c :: cs, e :: δ => e = .dk a b c ∧ sameIo cs δ
  | .dx .. :: cs, e :: δ => False
  | .xc .. :: cs, e :: δ => False
  | .fv .. :: cs, e :: δ => False
  | .od a _ :: cs, e :: δ => (∃ ys, e = .od a ys) ∧ sameIo cs δ
  | .ob a n _ :: cs, e :: δ => (∃ ys, e = .ob a n ys) ∧ sameIo cs δ
  | .gx t :: cs, e :: δ => (∃ u, e = .gx u ∧ u.hd = t.hd) ∧ sameIo cs δ
  | _ :: cs, _ :: δ => sameIo cs δ
  | _ :: _, [] => False
theorem outC_at : ∀ {cs : List Cell} {δ : DS} {i : Nat} {c : Cell}, sameIo cs δ → (outC cs δ)[i]? = some c → ∃ c0, cs[i]? = some c0 ∧ (((∃ x, c0 = .d x) ∨ c0 = .em ∨ ∃ a ns, c0 = .scr a ns) ∧ c = c0 ∨ (∃ a xs ys, c0 = .ol a xs ∧ c = .ol a ys ∧ δ[i]? = some c) ∨ (∃ a b d, c0 = .dk a b d ∧ c = c0 ∧ δ[i]? = some c) ∨ (∃ a xs ys, c0 = .od a xs ∧ c = .od a ys ∧ δ[i]? = some c) ∨ (∃ a n xs ys, c0 = .ob a n xs ∧ c = .ob a n ys ∧ δ[i]? = some c) ∨ (∃ t u, c0 = .gx t ∧ c = .gx u ∧ u.hd = t.hd ∧ δ[i]? = some c))
  | [], _, _, _, _, h => by simp [outC] at h
  | c0 :: cs, [], _, _, s, h => by cases c0 <;> exact s.elim
  | c0 :: cs, e :: δ, 0, c, s, h => by
    refine ⟨c0, rfl, ?_⟩
    cases c0 with
    | em => simp [outC] at h; exact .inl ⟨.inr (.inl rfl), h.symm⟩
    | scr a ns => simp [outC] at h; exact .inl ⟨.inr (.inr ⟨a, ns, rfl⟩), h.symm⟩
    | dx => exact s.elim
    | xc => exact s.elim
    | fv => exact s.elim
    | d x => simp [outC] at h; exact .inl ⟨.inl ⟨x, rfl⟩, h.symm⟩
    | ol a xs => simp [outC] at h; obtain ⟨⟨ys, e1⟩, _⟩ := s; exact .inr (.inl ⟨a, xs, ys, rfl, by rw [← h, e1], by simp [h]⟩)
    | dk a b d => simp [outC] at h; obtain ⟨e1, _⟩ := s; exact .inr (.inr (.inl ⟨a, b, d, rfl, by rw [← h, e1], by simp [h]⟩))
    | od a xs => simp [outC] at h; obtain ⟨⟨ys, e1⟩, _⟩ := s; exact .inr (.inr (.inr (.inl ⟨a, xs, ys, rfl, by rw [← h, e1], by simp [h]⟩)))
    | ob a n xs => simp [outC] at h; obtain ⟨⟨ys, e1⟩, _⟩ := s; exact .inr (.inr (.inr (.inr (.inl ⟨a, n, xs, ys, rfl, by rw [← h, e1], by simp [h]⟩))))
    | gx t => simp [outC] at h; obtain ⟨⟨u, e1, e2⟩, _⟩ := s; exact .inr (.inr (.inr (.inr (.inr ⟨t, u, rfl, by rw [← h, e1], e2, by simp [h]⟩))))
  | c0 :: cs, e :: δ, i + 1, c, s, h => by
    have s' : sameIo cs δ := by cases c0 <;> first | exact s | exact s.2 | exact s.elim
    have h' : (outC cs δ)[i]? = some c := by cases c0 <;> simpa [outC] using h
    obtain ⟨c1, e1, q⟩ := outC_at s' h'
    refine ⟨c1, by simpa using e1, ?_⟩
    simpa using q
theorem outC_len : ∀ {cs : List Cell} {δ : DS}, sameIo cs δ → (outC cs δ).length = cs.length
  | [], _, _ => rfl
  | c0 :: cs, [], s => by cases c0 <;> exact s.elim
  | c0 :: cs, e :: δ, s => by
    have s' : sameIo cs δ := by cases c0 <;> first | exact s | exact s.2 | exact s.elim
    cases c0 <;> simp [outC, outC_len s']
def endsOf (cs : List Cell) (R : PyData → List Cell → Prop) : DEnds := { nx := fun δ => sameIo cs δ ∧ R .none (outC cs δ), rt := fun x δ => sameIo cs δ ∧ R x (outC cs δ) }
def start0 (n : Nat) (cs : List Cell) : DS := cs ++ List.replicate (n - cs.length) .em
section
variable {P : Program} {w : World} {K : PySem.W.Frag} {mg : Str → Option Value} {base : Heap}
theorem rel_start {B G H : Hp} {cs : List Cell} {vs : List V} {N : List Str} (R : Rel K B G cs (vs.map some) H) : Rel K B G (start0 N.length cs) (L2.start N vs) H := by
  have hl : vs.length = cs.length := by have := R.len; simpa using this
  have get : ∀ {i : Nat} {c : Cell}, (start0 N.length cs)[i]? = some c → cs[i]? = some c ∨ c = Cell.em := fun {i c} e => by
    unfold start0 at e
    by_cases hi : i < cs.length
    · rw [List.getElem?_append_left hi] at e; exact .inl e
    · rw [List.getElem?_append_right (by omega), List.getElem?_replicate] at e
      split at e
      · cases e; exact .inr rfl
      · cases e
  refine ⟨by simp [start0, L2.start, hl], R.sg, R.sb, R.dj, fun i c o e1 e2 => ?_, fun i j c c' a e1 e2 m1 m2 => ?_, fun i c a e m => ?_, R.tt⟩
  · rcases get e1 with q | rfl
    · have hi : i < cs.length := (List.getElem?_eq_some_iff.mp q).1
      unfold L2.start at e2
      rw [List.getElem?_append_left (by rw [List.length_map, hl]; exact hi)] at e2
      exact R.ok i c o q e2
    · trivial
  · rcases get e1 with q1 | rfl
    · rcases get e2 with q2 | rfl
      · exact R.ap i j c c' a q1 q2 m1 m2
      · cases m2
    · cases m1
  · rcases get e with q | rfl
    · exact R.fr i c a q m
    · cases m
theorem rel_end {B G G' H H' : Hp} {cs : List Cell} {vs : List V} {δ : DS} {σ : L2.St} (R0 : Rel K B G cs (vs.map some) H) (R : Rel K B G' δ σ H') (s : Same G G') (io : sameIo cs δ) : Rel K B G' (outC cs δ) (vs.map some) H' := by
  refine ⟨by rw [outC_len io, ← R0.len], R.sg, R.sb, R.dj, fun i c o e1 e2 => ?_, fun i j c c' a e1 e2 m1 m2 => ?_, fun i c a e m => ?_, R.tt⟩
  · obtain ⟨c0, e0, q⟩ := outC_at io e1
    have ok0 := R0.ok i c0 o e0 e2
    rcases q with ⟨h, rfl⟩ | ⟨a, xs, ys, rfl, rfl, ed⟩ | ⟨a, b, d, rfl, rfl, ed⟩ | ⟨a, xs, ys, rfl, rfl, ed⟩ | ⟨a, n, xs, ys, rfl, rfl, ed⟩ | ⟨t, u, rfl, rfl, eh, ed⟩
    · rcases h with ⟨x, rfl⟩ | rfl | ⟨a, ns, rfl⟩
      · obtain ⟨v, e, dn⟩ := ok0; exact ⟨v, e, dn.mono s⟩
      · trivial
      · exact ⟨ok0.1, s.seq ok0.2⟩
    · obtain ⟨o', _, _, r⟩ := R.at ed
      exact ⟨ok0.1, r⟩
    · obtain ⟨o', _, _, r⟩ := R.at ed
      exact ⟨ok0.1, r⟩
    · obtain ⟨o', _, _, r⟩ := R.at ed
      exact ⟨ok0.1, r⟩
    · obtain ⟨o', _, _, r⟩ := R.at ed
      exact ⟨ok0.1, r⟩
    · obtain ⟨o', _, _, r⟩ := R.at ed
      exact ⟨by rw [eh]; exact ok0.1, r⟩
  · obtain ⟨c0, e0, q⟩ := outC_at io e1
    obtain ⟨c1, e3, q'⟩ := outC_at io e2
    have h1 : δ[i]? = some c := by
      rcases q with ⟨h, rfl⟩ | ⟨a, xs, ys, rfl, rfl, ed⟩ | ⟨a, b, d, rfl, rfl, ed⟩ | ⟨a, xs, ys, rfl, rfl, ed⟩ | ⟨a, n, xs, ys, rfl, rfl, ed⟩ | ⟨t, u, rfl, rfl, eh, ed⟩
      · rcases h with ⟨x, rfl⟩ | rfl | ⟨a, ns, rfl⟩ <;> cases m1
      · exact ed
      · exact ed
      · exact ed
      · exact ed
      · exact ed
    have h2 : δ[j]? = some c' := by
      rcases q' with ⟨h, rfl⟩ | ⟨a, xs, ys, rfl, rfl, ed⟩ | ⟨a, b, d, rfl, rfl, ed⟩ | ⟨a, xs, ys, rfl, rfl, ed⟩ | ⟨a, n, xs, ys, rfl, rfl, ed⟩ | ⟨t, u, rfl, rfl, eh, ed⟩
      · rcases h with ⟨x, rfl⟩ | rfl | ⟨a, ns, rfl⟩ <;> cases m2
      · exact ed
      · exact ed
      · exact ed
      · exact ed
      · exact ed
    exact R.ap i j c c' a h1 h2 m1 m2
  · obtain ⟨c0, e0, q⟩ := outC_at io e
    have h1 : δ[i]? = some c := by
      rcases q with ⟨h, rfl⟩ | ⟨a, xs, ys, rfl, rfl, ed⟩ | ⟨a, b, d, rfl, rfl, ed⟩ | ⟨a, xs, ys, rfl, rfl, ed⟩ | ⟨a, n, xs, ys, rfl, rfl, ed⟩ | ⟨t, u, rfl, rfl, eh, ed⟩
      · rcases h with ⟨x, rfl⟩ | rfl | ⟨a, ns, rfl⟩ <;> cases m
      · exact ed
      · exact ed
      · exact ed
      · exact ed
      · exact ed
    exact R.fr i c a h1 m
theorem okD {x qual : Str} {st : Stmt} {f : Addr} {fd : FuncData} {N ps : List Str} {k : Nat} {sp : DSp} {wb : DTS} (F : Fun K x qual st f fd) (S : FnScope N ps (defScope st)) (dl : ∀ cs R, sp cs R → cs.length = ps.length)
    (body : ∀ (cdv : Value) (A : Around) (outer : List Env) (s : Shared) (H : Hp) (E : XK), RoomG k (A.deeper (envOfC qual (defScope st) s.heap.objs.size f cdv)) → JSs (cxOf CX0 P w K mg base N qual (defScope st) f cdv A outer s H E).nox (defBody st) wb)
    (rd : ∀ cs R, sp cs R → wb (endsOf cs R) (start0 N.length cs)) : FnG P w K mg base CX0 (k + 1) f fd ps (liftSp K sp) := by
  obtain ⟨oc, od, kV, doc, pm, an, cdv, ct, osl, rfl, lk, hcd⟩ := F.ex
  refine fnG_of lk hcd S (fun vs H Q E ⟨B, G, cs, R, rel, hs, _⟩ => by rw [← dl cs R hs, ← rel.len, List.length_map]) fun A outer s H vs Q E hr ⟨B, G, cs, R, rel, hs, k⟩ => ?_
  refine ⟨_, (body cdv A outer s H E hr).nox, B, G, _, endsOf cs R, rel_start rel, rd cs R hs, ?_⟩
  exact ⟨fun σ' H' G' δ' ⟨io, r⟩ sG rel' => k _ H' G' _ _ r sG (rel_end rel rel' sG io) .non, fun v σ' H' G' x δ' ⟨io, r⟩ sG rel' dn => k v H' G' x _ r sG (rel_end rel rel' sG io) dn, fun _ _ _ _ h => h.elim, fun _ _ _ _ h => h.elim⟩
end

def lkM : List Bool → List Opd → DS → (List Opd → DS → Prop) → Prop
  | _, [], δ, k => k [] δ
  | m, o :: os, δ, k => if m.headD false = true then lkM m.tail os δ fun r δ' => k (o :: r) δ' else lk o δ fun x δ1 => lkM m.tail os δ1 fun r δ' => k (.d x :: r) δ'
def cellOf (δ : DS) : Opd → Cell
  | .d x => .d x
  | .s i => (δ[i]?).getD .em
def putBack : List Opd → List Cell → DS → DS
  | .s i :: os, c :: cs, δ => putBack os cs (δ.set i c)
  | .d _ :: os, _ :: cs, δ => putBack os cs δ
  | _, _, δ => δ
def slotsOf : List Opd → List Nat
  | [] => []
  | .s i :: os => i :: slotsOf os
  | .d _ :: os => slotsOf os
def wCall (m : List Bool) (sp : DSp) (w : DA) : DE := fun δ R => w δ fun os δ1 => lkM m os δ1 fun os' δ2 => (slotsOf os').Nodup ∧ sp (os'.map (cellOf δ2)) fun x cs => R (.d x) (putBack os' cs δ2)
theorem lkM_ok {K : PySem.W.Frag} {B H : Hp} {σ : L2.St} : ∀ {m : List Bool} {vs : List V} {os : List Opd} {G : Hp} {δ : DS} {k : List Opd → DS → Prop}, Rel K B G δ σ H → OpdsOk K G σ vs os → lkM m os δ k → ∃ G' δ' os', k os' δ' ∧ Same G G' ∧ Rel K B G' δ' σ H ∧ OpdsOk K G' σ vs os'
  | _, _, [], G, δ, k, R, h, q => by cases h; exact ⟨G, δ, [], by simpa [lkM] using q, Same.refl _, R, .nil⟩
  | m, _, o :: os, G, δ, k, R, h, q => by
    cases h with
    | cons a b =>
      unfold lkM at q
      split at q
      · obtain ⟨G1, δ1, os', q1, s1, R1, ok1⟩ := lkM_ok R b q
        exact ⟨G1, δ1, o :: os', q1, s1, R1, .cons (a.mono s1) ok1⟩
      · obtain ⟨G1, δ1, x, q1, s1, R1, d1⟩ := lk_ok R a q
        obtain ⟨G2, δ2, os', q2, s2, R2, ok2⟩ := lkM_ok R1 (b.mono s1) q1
        exact ⟨G2, δ2, .d x :: os', q2, s1.trans s2, R2, .cons (Dn.mono s2 _ d1) ok2⟩
theorem mem_slots {os : List Opd} {i : Nat} : i ∈ slotsOf os ↔ ∃ j : Nat, os[j]? = some (Opd.s i) := by
  induction os with
  | nil => simp [slotsOf]
  | cons o os ih =>
    cases o with
    | d x =>
      simp only [slotsOf, ih]
      constructor
      · rintro ⟨j, e⟩; exact ⟨j + 1, by simpa using e⟩
      · rintro ⟨j, e⟩
        cases j with
        | zero => simp at e
        | succ j => exact ⟨j, by simpa using e⟩
    | s i' =>
      simp only [slotsOf, List.mem_cons, ih]
      constructor
      · rintro (rfl | ⟨j, e⟩)
        · exact ⟨0, rfl⟩
        · exact ⟨j + 1, by simpa using e⟩
      · rintro ⟨j, e⟩
        cases j with
        | zero => simp at e; exact .inl e.symm
        | succ j => exact .inr ⟨j, by simpa using e⟩
theorem slots_uniq {os : List Opd} (h : (slotsOf os).Nodup) : ∀ {j k i : Nat}, os[j]? = some (Opd.s i) → os[k]? = some (Opd.s i) → j = k := by
  induction os with
  | nil => intro j k i e; simp at e
  | cons o os ih =>
    intro j k i e1 e2
    have h' : (slotsOf os).Nodup := by
      cases o with
      | d x => exact h
      | s i' => exact (List.nodup_cons.mp h).2
    cases j with
    | zero =>
      cases k with
      | zero => rfl
      | succ k =>
        simp at e1; subst e1
        exact absurd (mem_slots.mpr ⟨k, by simpa using e2⟩) (List.nodup_cons.mp h).1
    | succ j =>
      cases k with
      | zero =>
        simp at e2; subst e2
        exact absurd (mem_slots.mpr ⟨j, by simpa using e1⟩) (List.nodup_cons.mp h).1
      | succ k => exact congrArg (· + 1) (ih (i := i) h' (by simpa using e1) (by simpa using e2))
theorem opds_at {K : PySem.W.Frag} {G : Hp} {σ : L2.St} : ∀ {vs : List V} {os : List Opd} {j : Nat} {o : Opd}, OpdsOk K G σ vs os → os[j]? = some o → ∃ v, vs[j]? = some v ∧ OpdOk K G σ v o
  | _, [], _, _, h, e => by simp at e
  | _, o :: os, 0, _, h, e => by cases h with | cons a b => simp at e; subst e; exact ⟨_, rfl, a⟩
  | _, o :: os, j + 1, x, h, e => by
    cases h with
    | cons a b =>
      obtain ⟨v, h1, h2⟩ := opds_at (j := j) b (by simpa using e)
      exact ⟨v, by simpa using h1, h2⟩
theorem opds_len {K : PySem.W.Frag} {G : Hp} {σ : L2.St} : ∀ {vs : List V} {os : List Opd}, OpdsOk K G σ vs os → vs.length = os.length
  | _, [], h => by cases h; rfl
  | _, o :: os, h => by cases h with | cons a b => simp [opds_len b]
noncomputable def hold (B H : Hp) (δ : DS) (io : List Nat) : Hp := by
  classical
  exact fun a => if ∃ i c, δ[i]? = some c ∧ a ∈ c.fp ∧ i ∉ io then H a else B a
section
variable {K : PySem.W.Frag} {B G H : Hp} {δ : DS} {σ : L2.St} {io : List Nat} {a : Addr}
theorem hold_in (h : ∃ i c, δ[i]? = some c ∧ a ∈ c.fp ∧ i ∉ io) : hold B H δ io a = H a := by unfold hold; exact if_pos h
theorem hold_out (h : ¬ ∃ i c, δ[i]? = some c ∧ a ∈ c.fp ∧ i ∉ io) : hold B H δ io a = B a := by unfold hold; exact if_neg h
theorem call_rel {vs : List V} {os : List Opd} (R : Rel K B G δ σ H) (ok : OpdsOk K G σ vs os) (nd : (slotsOf os).Nodup) : Rel K (hold B H δ (slotsOf os)) G (os.map (cellOf δ)) (vs.map some) H := by
  have getc : ∀ {j : Nat} {c : Cell}, (os.map (cellOf δ))[j]? = some c → ∃ o, os[j]? = some o ∧ c = cellOf δ o := fun {j c} e => by
    rw [List.getElem?_map] at e
    cases h : os[j]? with
    | none => rw [h] at e; cases e
    | some o => rw [h] at e; cases e; exact ⟨o, rfl, rfl⟩
  have own : ∀ {j : Nat} {c : Cell} {a : Addr}, (os.map (cellOf δ))[j]? = some c → a ∈ c.fp → ∃ i, os[j]? = some (.s i) ∧ δ[i]? = some c := fun {j c a} e m => by
    obtain ⟨o, e1, rfl⟩ := getc e
    cases o with
    | d x => cases m
    | s i =>
      refine ⟨i, e1, ?_⟩
      have m' : a ∈ ((δ[i]?).getD Cell.em).fp := m
      show δ[i]? = some ((δ[i]?).getD Cell.em)
      cases h : δ[i]? with
      | none => rw [h] at m'; cases m'
      | some c => rfl
  refine ⟨by simp [opds_len ok], R.sg, fun a o e => ?_, fun a => ?_, fun j c o e1 e2 => ?_, fun j k c c' a e1 e2 m1 m2 => ?_, fun j c a e m => ?_, ⟨R.tt.t, ⟨fun a o e => ?_, R.tt.n.g⟩⟩⟩
  · by_cases h : ∃ i c, δ[i]? = some c ∧ a ∈ c.fp ∧ i ∉ slotsOf os
    · rw [hold_in h] at e; exact e
    · rw [hold_out h] at e; exact R.sb _ _ e
  · by_cases h : ∃ i c, δ[i]? = some c ∧ a ∈ c.fp ∧ i ∉ slotsOf os
    · obtain ⟨i, c, h1, h2, _⟩ := h
      exact .inl (R.fr i c a h1 h2).1
    · rw [hold_out h]; exact R.dj a
  · obtain ⟨od, e3, rfl⟩ := getc e1
    obtain ⟨v, e4, okv⟩ := opds_at ok e3
    rw [List.getElem?_map, e4] at e2
    cases e2
    cases od with
    | d x => exact ⟨v, rfl, okv⟩
    | s i =>
      have hσ : σ[i]? = some (some v) := okv
      show CellOk K G H ((δ[i]?).getD Cell.em) (some v)
      cases h : δ[i]? with
      | none => trivial
      | some c => exact R.ok i c _ h hσ
  · obtain ⟨i, h1, h2⟩ := own e1 m1
    obtain ⟨i', h3, h4⟩ := own e2 m2
    have := R.ap i i' c c' a h2 h4 m1 m2
    subst this
    exact slots_uniq nd h1 h3
  · obtain ⟨i, h1, h2⟩ := own e m
    obtain ⟨f1, f2⟩ := R.fr i c a h2 m
    refine ⟨f1, ?_⟩
    rw [hold_out]
    · exact f2
    · rintro ⟨i', c', h3, h4, h5⟩
      have := R.ap i i' c c' a h2 h3 m h4
      subst this
      exact h5 (mem_slots.mpr ⟨j, h1⟩)
  · by_cases h : ∃ i c, δ[i]? = some c ∧ a ∈ c.fp ∧ i ∉ slotsOf os
    · rw [hold_in h] at e
      obtain ⟨i, c, h1, h2, _⟩ := h
      obtain ⟨ov, _, okc⟩ := R.at h1
      exact cell_te okc h2 o e
    · rw [hold_out h] at e; exact R.tt.n.b _ _ e
theorem putBack_at : ∀ {os : List Opd} {cs : List Cell} {δ : DS} {i : Nat} {c : Cell}, os.length = cs.length → (slotsOf os).Nodup → (putBack os cs δ)[i]? = some c → (i ∉ slotsOf os ∧ δ[i]? = some c) ∨ ∃ j : Nat, os[j]? = some (Opd.s i) ∧ cs[j]? = some c
  | [], cs, δ, i, c, hl, nd, h => by unfold putBack at h; exact .inl ⟨(fun m => nomatch m), h⟩
  | o :: os, [], δ, i, c, hl, nd, h => by simp at hl
  | .d x :: os, c0 :: cs, δ, i, c, hl, nd, h => by
    rcases putBack_at (os := os) (cs := cs) (by simpa using hl) nd (by simpa [putBack] using h) with ⟨h1, h2⟩ | ⟨j, h1, h2⟩
    · exact .inl ⟨h1, h2⟩
    · exact .inr ⟨j + 1, by simpa using h1, by simpa using h2⟩
  | .s i0 :: os, c0 :: cs, δ, i, c, hl, nd, h => by
    rcases putBack_at (os := os) (cs := cs) (by simpa using hl) (List.nodup_cons.mp nd).2 (by simpa [putBack] using h) with ⟨h1, h2⟩ | ⟨j, h1, h2⟩
    · by_cases hi : i0 = i
      · subst hi
        rw [List.getElem?_set] at h2
        simp only [if_true] at h2
        split at h2
        · cases h2; exact .inr ⟨0, rfl, rfl⟩
        · cases h2
      · rw [List.getElem?_set_ne hi] at h2
        exact .inl ⟨fun m => by rcases List.mem_cons.mp m with z | z; exact hi z.symm; exact h1 z, h2⟩
    · exact .inr ⟨j + 1, by simpa using h1, by simpa using h2⟩
theorem putBack_len : ∀ {os : List Opd} {cs : List Cell} {δ : DS}, (putBack os cs δ).length = δ.length
  | [], cs, δ => by simp [putBack]
  | .d _ :: os, [], δ => by rfl
  | .s _ :: os, [], δ => by rfl
  | .d _ :: os, c :: cs, δ => by simp [putBack, putBack_len]
  | .s _ :: os, c :: cs, δ => by simp [putBack, putBack_len]
theorem call_back {G' H' : Hp} {vs : List V} {os : List Opd} {cs : List Cell} (R : Rel K B G δ σ H) (ok : OpdsOk K G σ vs os) (nd : (slotsOf os).Nodup) (s : Same G G') (R' : Rel K (hold B H δ (slotsOf os)) G' cs (vs.map some) H') : Rel K B G' (putBack os cs δ) σ H' := by
  have hlen : os.length = cs.length := by rw [← opds_len ok, ← R'.len, List.length_map]
  have sb : Same B H' := fun a o e => by
    by_cases h : ∃ i c, δ[i]? = some c ∧ a ∈ c.fp ∧ i ∉ slotsOf os
    · obtain ⟨i, c, h1, h2, _⟩ := h
      rw [(R.fr i c a h1 h2).2] at e; cases e
    · exact R'.sb a o (by rw [hold_out h]; exact e)
  have keep : ∀ {i : Nat} {c : Cell} {a : Addr}, i ∉ slotsOf os → δ[i]? = some c → a ∈ c.fp → H' a = H a ∧ hold B H δ (slotsOf os) a = H a := fun {i c a} h1 h2 h3 => by
    have e := hold_in (B := B) (H := H) ⟨i, c, h2, h3, h1⟩
    obtain ⟨o, eo⟩ := R.tr h2 h3
    exact ⟨by rw [R'.sb a o (by rw [e]; exact eo), eo], e⟩
  refine ⟨by rw [putBack_len]; exact R.len, R'.sg, sb, fun a => ?_, fun i c o e1 e2 => ?_, fun i k c c' a e1 e2 m1 m2 => ?_, fun i c a e m => ?_, ⟨R'.tt.t, ⟨R.tt.n.b, R'.tt.n.g⟩⟩⟩
  · by_cases h : ∃ i c, δ[i]? = some c ∧ a ∈ c.fp ∧ i ∉ slotsOf os
    · obtain ⟨i, c, h1, h2, _⟩ := h
      exact .inr (R.fr i c a h1 h2).2
    · have := R'.dj a
      rw [hold_out h] at this; exact this
  · rcases putBack_at hlen nd e1 with ⟨h1, h2⟩ | ⟨j, h1, h2⟩
    · exact (R.ok i c o h2 e2).stay s fun a m => (keep h1 h2 m).1
    · obtain ⟨v, h3, h4⟩ := opds_at ok h1
      have h5 : σ[i]? = some (some v) := h4
      rw [h5] at e2; cases e2
      exact R'.ok j c (some v) h2 (by rw [List.getElem?_map, h3]; rfl)
  · rcases putBack_at hlen nd e1 with ⟨h1, h2⟩ | ⟨j, h1, h2⟩
    · rcases putBack_at hlen nd e2 with ⟨h3, h4⟩ | ⟨j', h3, h4⟩
      · exact R.ap i k c c' a h2 h4 m1 m2
      · obtain ⟨_, f2⟩ := R'.fr j' c' a h4 m2
        rw [(keep h1 h2 m1).2] at f2
        obtain ⟨o, eo⟩ := R.tr h2 m1
        rw [eo] at f2; cases f2
    · rcases putBack_at hlen nd e2 with ⟨h3, h4⟩ | ⟨j', h3, h4⟩
      · obtain ⟨_, f2⟩ := R'.fr j c a h2 m1
        rw [(keep h3 h4 m2).2] at f2
        obtain ⟨o, eo⟩ := R.tr h4 m2
        rw [eo] at f2; cases f2
      · have := R'.ap j j' c c' a h2 h4 m1 m2
        subst this
        rw [h1] at h3; cases h3; rfl
  · rcases putBack_at hlen nd e with ⟨h1, h2⟩ | ⟨j, h1, h2⟩
    · obtain ⟨f1, f2⟩ := R.fr i c a h2 m
      refine ⟨?_, f2⟩
      rcases R'.dj a with z | z
      · exact z
      · rw [(keep h1 h2 m).2] at z
        obtain ⟨o, eo⟩ := R.tr h2 m
        rw [eo] at z; cases z
    · obtain ⟨f1, f2⟩ := R'.fr j c a h2 m
      refine ⟨f1, ?_⟩
      by_cases h : ∃ i c, δ[i]? = some c ∧ a ∈ c.fp ∧ i ∉ slotsOf os
      · obtain ⟨i', c', h3, h4, _⟩ := h
        exact (R.fr i' c' a h3 h4).2
      · rw [hold_out h] at f2; exact f2
end
section
variable {X : Cx} {CX : CXT} {k : Nat} {f : Addr} {fd : FuncData} {ps : List Str} {x : Str} {p pos : Pos} {e : Expr} {es : List Expr}
theorem run_fnG {sp : Sp} {E : XK} {pins : List (Addr × Obj)} {σ : L2.St} {H : Hp} {s : Shared} {Q : VK} {us : List Value} {vs : List V} (F : FnG X.prog X.w X.K X.mg X.base CX k f fd ps sp) (hr : RoomG k X.A) (hb : Binds X.K fd ps []) (hx : Passes CX X E)
    (I : Inv X pins σ H s) (r : Vals vs us) (h : sp vs H Q E) : wpAny (model X.prog X.w) X.A (call (.ref f) us) (EP X pins σ Q) X.xe s := by
  have many : (us ++ []).length = ps.length := (List.append_nil us).symm ▸ r.length.symm.trans (F.len _ _ _ _ h)
  have bound : BindsTo s fd ⟨us, []⟩ (ps.zip us) := by have := hb s us I.kIn many; rwa [List.append_nil] at this
  refine wpAny_call (codeAny_mono (F.run X.A X.stack s H ⟨us, []⟩ us vs Q E hr I.env0 bound r h) ?_)
  rintro (err | _ | _ | _ | u) z back <;> first | exact hx pins σ H s err z I back | exact False.elim back | exact I.after back
theorem pe_callG {sp : Sp} {E : XK} {t : TA} (F : FnG X.prog X.w X.K X.mg X.base CX k f fd ps sp) (hr : RoomG k X.A) (hg : Gl X x) (hm : X.mg x = some (.ref f)) (hk : PySem.W.keepIn X.K (.ref f) = true) (hb : Binds X.K fd ps []) (hx : Passes CX X E)
    (ha : PA X (e :: es) t) (hdb : (x == ("__debug__" : Str)) = false := by decide) (he : starEach (e :: es) X.env = (false, eval e X.env) :: starEach es X.env := by rfl) (hpl : (backTo pos (starEach es X.env)).any (·.1) = false := by rfl) : PE X (.Call (.Name x p) (e :: es) [] pos) (tCall sp [] E t) := by
  exact ⟨fun pins s σ H Q I h => wpAny_Call_Name_kw (ld_glob I hg hm (PySem.W.callWith_K (h₀ := X.base) I.ok.mod.kin hk (wpAny_mono (ha.run pos pins s σ H _ I h)
    (fun us z ⟨vs, H1, I1, r, q⟩ => ⟨I1.kIn, run_fnG F hr hb hx I1 r (by have q : sp (vs ++ []) H1 Q E := q; rwa [List.append_nil] at q)⟩) fun _ _ z => z) he hpl) hdb)⟩
theorem je_call {m : List Bool} {sp : DSp} {w : DA} (F : FnG X.prog X.w X.K X.mg X.base CX0 k f fd ps (liftSp X.K sp)) (hr : RoomG k X.A) (hg : Gl X x) (hm : X.mg x = some (.ref f)) (hk : PySem.W.keepIn X.K (.ref f) = true) (hb : Binds X.K fd ps [])
    (ha : JA X (e :: es) w) (hdb : (x == ("__debug__" : Str)) = false := by decide) (he : starEach (e :: es) X.env = (false, eval e X.env) :: starEach es X.env := by rfl) (hpl : (backTo pos (starEach es X.env)).any (·.1) = false := by rfl) : JE X (.Call (.Name x p) (e :: es) [] pos) (wCall m sp w) :=
  pe_le (pe_callG (E := E0) F hr hg hm hk hb pass0 ha hdb he hpl) fun pins s σ H Q I ⟨B, G, δ, R, rel, hw, k⟩ => ⟨B, G, δ, _, rel, hw, fun vs H1 G1 os δ1 r1 s1 rel1 ok1 => by
    obtain ⟨G2, δ2, os', ⟨nd, q⟩, s2, rel2, ok2⟩ := lkM_ok rel1 ok1 r1
    rw [List.append_nil]
    exact ⟨_, G2, _, _, call_rel rel2 ok2 nd, q, fun v H' G' z cs r s3 rel3 dn => k v H' G' _ _ r (s1.trans (s2.trans s3)) (call_back rel2 ok2 nd s3 rel3) dn⟩⟩
end
end DL
set_option Elab.async false
set_option linter.all false
set_option maxRecDepth 100000
set_option maxHeartbeats 4000000
namespace DL
open PySem PySem.Spec PyProof.Rows L2
variable [Tb]

inductive Src where
  | l (a : Addr)
  | t (a : Addr)
def Src.ad : Src → Addr
  | .l a => a
  | .t a => a
def Src.is (h : Heap) (its : Array Value) : Src → Prop
  | .l a => h.IsList a its
  | .t a => h.IsTuple a its
def Src.iter (h : Heap) (it : Addr) (n : Nat) : Src → Prop
  | .l a => h.IsListIter it a n
  | .t a => h.IsTupleIter it a n
def Src.ob : Src → Obj
  | .l a => { cls := .type "list_iterator", data := .fields #[.ref a, .int 0 0] }
  | .t a => { cls := .type "tuple_iterator", data := .fields #[.ref a, .int 0 0] }
theorem Src.begins (S : Src) (items : Array Value) : Begins (.ref S.ad) S.ob fun h => S.is h items := by
  cases S with
  | l a => exact begins_list a items
  | t a => exact begins_tuple a items
def Sits (ch : List Addr) (h : Heap) : Prop := ∀ b ∈ ch, ∃ o, h.get? b = some o ∧ ∀ v, o.data ≠ .cell v
theorem Sits.nil {h : Heap} : Sits [] h := fun _ m => nomatch m
theorem Sits.put {b : Addr} {ch : List Addr} {h : Heap} {o : Obj} (e : h.get? b = some o) (n : ∀ v, o.data ≠ .cell v) (t : Sits ch h) : Sits (b :: ch) h :=
  List.forall_mem_cons.mpr ⟨⟨o, e, n⟩, t⟩
def seqOf : PyData → Option (List PyData)
  | .list xs => some xs
  | .tuple xs => some xs
  | _ => none
def triosD : List PyData → List PyData → List PyData → List PyData
  | x :: xs, y :: ys, z :: zs => .tuple [x, y, z] :: triosD xs ys zs
  | _, _, _ => []
def numbered : Nat → List PyData → List PyData
  | _, [] => []
  | n, x :: xs => .tuple [.int (n : Int), x] :: numbered (n + 1) xs
def iZip2 (w : DA) : DL := fun δ R => w δ fun os δ1 => lkL os δ1 fun ds δ2 => match ds with
  | [a, b] => ∃ xs ys, seqOf a = some xs ∧ seqOf b = some ys ∧ R (pairsD xs ys) δ2
  | _ => False
def iZip3 (w : DA) : DL := fun δ R => w δ fun os δ1 => lkL os δ1 fun ds δ2 => match ds with
  | [a, b, c] => ∃ xs ys zs, seqOf a = some xs ∧ seqOf b = some ys ∧ seqOf c = some zs ∧ R (triosD xs ys zs) δ2
  | _ => False
def iEnumD (w : DA) : DL := fun δ R => w δ fun os δ1 => lkL os δ1 fun ds δ2 => match ds with
  | [a] => ∃ xs, seqOf a = some xs ∧ R (numbered 0 xs) δ2
  | _ => False
theorem DnL.one {K : PySem.W.Frag} {G : Hp} {vs : List V} {d : PyData} (h : DnL K G vs [d]) : ∃ v, vs = [v] ∧ Dn K G v d := by
  cases h with | cons a b => cases b; exact ⟨_, rfl, a⟩
theorem DnL.two {K : PySem.W.Frag} {G : Hp} {vs : List V} {d e : PyData} (h : DnL K G vs [d, e]) : ∃ v u, vs = [v, u] ∧ Dn K G v d ∧ Dn K G u e := by
  cases h with | cons a b => obtain ⟨u, rfl, c⟩ := b.one; exact ⟨_, _, rfl, a, c⟩
section
variable {X : Cx} {pos tpos : Pos} {elts : List Expr} {kk : Nat} {p : Pos}
end
end DL
set_option Elab.async false
set_option linter.all false
set_option maxRecDepth 100000
set_option maxHeartbeats 4000000
universe u
namespace DL
open PySem PySem.Spec PyProof.Rows L2
variable [Tb]

inductive Stop {α : Sort u} (R : α) : Type where
  | mk
def comC (g : DTG) (t : DT) (e : DE) (vs : List Nat) (xs acc : List PyData) (δ : DS) (R : List PyData → DS → Prop) (_u : Stop R) : Prop := compIt g t e vs xs acc δ R
def forC (g : DTG) (b : DTS) (xs : List PyData) (δ : DS) (E : DEnds) (_u : Stop E) : Prop := forIt g b xs E δ
def whileC (c : DT) (b : DTS) (δ : DS) (E : DEnds) (_u : Stop E) : Prop := wWhile c b E δ
def ask (sp : DSp) (cs : List Cell) (R : PyData → List Cell → Prop) (_u : Stop R) : Prop := sp cs R
def onS {α : Type} (o : Option α) (k : α → Prop) (_u : Stop k) : Prop := match o with
  | some z => k z
  | none => False
omit [Tb] in
@[simp ↓] theorem onS_some {α : Type} (z : α) (k : α → Prop) (u : Stop k) : onS (some z) k u = k z := rfl
theorem ex_some {α : Type} (o : Option α) (k : α → Prop) : (∃ z, o = some z ∧ k z) = onS o k .mk := by
  cases o <;> simp [onS]
theorem onS_of {α : Type} {o : Option α} {z : α} {k : α → Prop} {u : Stop k} (h : o = some z) (q : k z) : onS o k u := by rw [h]; exact q
def onIs (ds : List PyData) (k : List Int → Prop) (_u : Stop k) : Prop := ∃ ns : List Int, ds = ns.map PyData.int ∧ k ns
def onBs (ds : List PyData) (k : List Bool → Prop) (_u : Stop k) : Prop := ∃ ns : List Bool, ds = ns.map PyData.bool ∧ k ns
theorem map_int_inj : ∀ {ns ms : List Int}, ns.map PyData.int = ms.map PyData.int → ns = ms
  | [], [], _ => rfl
  | [], _ :: _, h => by cases h
  | _ :: _, [], h => by cases h
  | n :: ns, m :: ms, h => by
    simp only [List.map_cons, List.cons.injEq] at h
    obtain ⟨h1, h2⟩ := h
    cases h1
    rw [map_int_inj h2]
theorem map_bool_inj : ∀ {ns ms : List Bool}, ns.map PyData.bool = ms.map PyData.bool → ns = ms
  | [], [], _ => rfl
  | [], _ :: _, h => by cases h
  | _ :: _, [], h => by cases h
  | n :: ns, m :: ms, h => by
    simp only [List.map_cons, List.cons.injEq] at h
    obtain ⟨h1, h2⟩ := h
    cases h1
    rw [map_bool_inj h2]
omit [Tb] in
@[simp ↓] theorem onIs_i (ns : List Int) (k : List Int → Prop) (u : Stop k) : onIs (ns.map PyData.int) k u = k ns :=
  propext ⟨fun ⟨ms, e, h⟩ => by rw [map_int_inj e]; exact h, fun h => ⟨ns, rfl, h⟩⟩
omit [Tb] in
@[simp ↓] theorem onIs_f {α : Type} (as : List α) (f : α → Int) (k : List Int → Prop) (u : Stop k) : onIs (as.map fun a => PyData.int (f a)) k u = k (as.map f) := by
  have := onIs_i (as.map f) k u
  rw [List.map_map] at this; exact this
omit [Tb] in
@[simp ↓] theorem onBs_i (ns : List Bool) (k : List Bool → Prop) (u : Stop k) : onBs (ns.map PyData.bool) k u = k ns :=
  propext ⟨fun ⟨ms, e, h⟩ => by rw [map_bool_inj e]; exact h, fun h => ⟨ns, rfl, h⟩⟩
omit [Tb] in
@[simp ↓] theorem onBs_f {α : Type} (as : List α) (f : α → Bool) (k : List Bool → Prop) (u : Stop k) : onBs (as.map fun a => PyData.bool (f a)) k u = k (as.map f) := by
  have := onBs_i (as.map f) k u
  rw [List.map_map] at this; exact this
def allTr (bs : List Bool) : Bool := bs.all id
def anyTr (bs : List Bool) : Bool := bs.any id
def onD (o : Option Cell) (k : PyData → Prop) (_u : Stop k) : Prop := match o with
  | some (.d z) => k z
  | _ => False
omit [Tb] in
@[simp ↓] theorem onD_d (z : PyData) (k : PyData → Prop) (u : Stop k) : onD (some (.d z)) k u = k z := rfl
theorem ex_d (o : Option Cell) (k : PyData → Prop) : (∃ z, o = some (.d z) ∧ k z) = onD o k .mk := by
  cases o with
  | none => simp [onD]
  | some c => cases c <;> simp [onD]
def asB (x : PyData) (k : Bool → Prop) (_u : Stop k) : Prop := match x with
  | .bool b => k b
  | _ => False
def asI (x : PyData) (k : Int → Prop) (_u : Stop k) : Prop := match x with
  | .int b => k b
  | _ => False
omit [Tb] in
@[simp ↓] theorem asB_b (b : Bool) (k : Bool → Prop) (u : Stop k) : asB (.bool b) k u = k b := rfl
omit [Tb] in
@[simp ↓] theorem asI_i (b : Int) (k : Int → Prop) (u : Stop k) : asI (.int b) k u = k b := rfl
theorem ex_bool (x : PyData) (k : Bool → Prop) : (∃ b, x = .bool b ∧ k b) = asB x k .mk := by
  cases x <;> simp [asB]
theorem ex_int (x : PyData) (k : Int → Prop) : (∃ b, x = .int b ∧ k b) = asI x k .mk := by
  cases x <;> simp [asI]
omit [Tb] in
@[simp ↓] theorem wOfL_ap (w : DL) (δ : DS) (R : Opd → DS → Prop) : wOfL w δ R = (w δ fun xs δ' => R (.d (.list xs)) δ') := rfl
def varC (o : Option Cell) (i : Nat) (k : Opd → Prop) (_u : Stop k) : Prop := match o with
  | some (.d x) => k (.d x)
  | some .em => False
  | none => False
  | _ => k (.s i)
omit [Tb] in
@[simp ↓] theorem varC_d (x : PyData) (i : Nat) (k : Opd → Prop) (u : Stop k) : varC (some (.d x)) i k u = k (.d x) := rfl
omit [Tb] in
@[simp ↓] theorem varC_ol (a : Addr) (xs : List PyData) (i : Nat) (k : Opd → Prop) (u : Stop k) : varC (some (.ol a xs)) i k u = k (.s i) := rfl
omit [Tb] in
@[simp ↓] theorem varC_dk (a b c : Addr) (i : Nat) (k : Opd → Prop) (u : Stop k) : varC (some (.dk a b c)) i k u = k (.s i) := rfl
omit [Tb] in
@[simp ↓] theorem varC_dx (a b c : Addr) (xs : List Int) (n : Int) (ys : List Int) (i : Nat) (k : Opd → Prop) (u : Stop k) : varC (some (.dx a b c xs n ys)) i k u = k (.s i) := rfl
omit [Tb] in
@[simp ↓] theorem varC_scr (a : Addr) (ns : List Int) (i : Nat) (k : Opd → Prop) (u : Stop k) : varC (some (.scr a ns)) i k u = k (.s i) := rfl
def useC (o : Option Cell) (k : PyData → Prop) (_u : Stop k) : Prop := match o with
  | some (.d x) => k x
  | some (.ol _ xs) => k (.list xs)
  | _ => False
omit [Tb] in
@[simp ↓] theorem useC_d (x : PyData) (k : PyData → Prop) (u : Stop k) : useC (some (.d x)) k u = k x := rfl
omit [Tb] in
@[simp ↓] theorem useC_ol (a : Addr) (xs : List PyData) (k : PyData → Prop) (u : Stop k) : useC (some (.ol a xs)) k u = k (.list xs) := rfl
def lkC (o : Option Cell) (k l : PyData → Prop) (_u : Stop k) (_v : Stop l) : Prop := match o with
  | some (.d x) => k x
  | some (.ol _ xs) => l (.list xs)
  | _ => False
omit [Tb] in
@[simp ↓] theorem lkC_d (x : PyData) (k l : PyData → Prop) (u : Stop k) (v : Stop l) : lkC (some (.d x)) k l u v = k x := rfl
omit [Tb] in
@[simp ↓] theorem lkC_ol (a : Addr) (xs : List PyData) (k l : PyData → Prop) (u : Stop k) (v : Stop l) : lkC (some (.ol a xs)) k l u v = l (.list xs) := rfl
def olC (o : Option Cell) (k : Addr → List PyData → Prop) (_u : Stop k) : Prop := match o with
  | some (.ol a xs) => k a xs
  | _ => False
omit [Tb] in
@[simp ↓] theorem olC_ol (a : Addr) (xs : List PyData) (k : Addr → List PyData → Prop) (u : Stop k) : olC (some (.ol a xs)) k u = k a xs := rfl
def asS (x : PyData) (k : List PyData → Prop) (_u : Stop k) : Prop := match x with
  | .tuple xs => k xs
  | .list xs => k xs
  | _ => False
omit [Tb] in
@[simp ↓] theorem asS_t (xs : List PyData) (k : List PyData → Prop) (u : Stop k) : asS (.tuple xs) k u = k xs := rfl
omit [Tb] in
@[simp ↓] theorem asS_l (xs : List PyData) (k : List PyData → Prop) (u : Stop k) : asS (.list xs) k u = k xs := rfl
omit [Tb] in
@[simp ↓] theorem wVar_ap (i : Nat) (δ : DS) (R : Opd → DS → Prop) : wVar i δ R = varC δ[i]? i (fun o => R o δ) .mk := rfl
omit [Tb] in
@[simp ↓] theorem wC_ap (x : PyData) (δ : DS) (R : Opd → DS → Prop) : wC x δ R = (R (.d x) δ) := rfl
omit [Tb] in
@[simp ↓] theorem wNil_ap (δ : DS) (R : List Opd → DS → Prop) : wNil  δ R = (R [] δ) := rfl
omit [Tb] in
@[simp ↓] theorem wCons_ap (w : DE) (r : DA) (δ : DS) (R : List Opd → DS → Prop) : wCons w r δ R = (w δ fun o δ1 => r δ1 fun os δ2 => R (o :: os) δ2) := rfl
omit [Tb] in
@[simp ↓] theorem wOp_ap (p : P2) (wa wb : DE) (δ : DS) (R : Opd → DS → Prop) : wOp p wa wb δ R = (wa δ fun o1 δ1 => wb δ1 fun o2 δ2 => use o1 δ2 fun x => use o2 δ2 fun y => p x y fun z => R (.d z) δ2) := rfl
omit [Tb] in
@[simp ↓] theorem wB_ap (w : DE) (δ : DS) (R : Bool → DS → Prop) : wB w δ R = (w δ fun o δ1 => use o δ1 fun x => asB x (fun b => R b δ1) .mk) := by
  unfold wB; simp only [← ex_bool, ← ex_int]
omit [Tb] in
@[simp ↓] theorem wChain_ap (p q : P2) (wa wb wc : DE) (δ : DS) (R : Opd → DS → Prop) : wChain p q wa wb wc δ R = (wa δ fun o1 δ1 => wb δ1 fun o2 δ2 => use o1 δ2 fun x => use o2 δ2 fun y => p x y fun z => asB z (fun k =>
  if k = true then wc δ2 fun o3 δ3 => use o2 δ3 fun y => use o3 δ3 fun w => q y w fun z => R (.d z) δ3 else R (.d (.bool false)) δ2) .mk) := by
  unfold wChain; simp only [← ex_bool, ← ex_int]
omit [Tb] in
@[simp ↓] theorem wAnd_ap (t u : DT) (δ : DS) (R : Bool → DS → Prop) : wAnd t u δ R = (t δ fun k δ1 => if k = true then u δ1 R else R false δ1) := rfl
omit [Tb] in
@[simp ↓] theorem wOr_ap (t u : DT) (δ : DS) (R : Bool → DS → Prop) : wOr t u δ R = (t δ fun k δ1 => if k = true then R true δ1 else u δ1 R) := rfl
omit [Tb] in
@[simp ↓] theorem wNot_ap (t : DT) (δ : DS) (R : Bool → DS → Prop) : wNot t δ R = (t δ fun k δ1 => R (!k) δ1) := rfl
omit [Tb] in
@[simp ↓] theorem wAndV_ap (w u : DE) (δ : DS) (R : Opd → DS → Prop) : wAndV w u δ R = (w δ fun o δ1 => use o δ1 fun x => asB x (fun k => if k = true then u δ1 R else R (.d (.bool false)) δ1) .mk) := by
  unfold wAndV; simp only [← ex_bool, ← ex_int]
omit [Tb] in
@[simp ↓] theorem wOrV_ap (w u : DE) (δ : DS) (R : Opd → DS → Prop) : wOrV w u δ R = (w δ fun o δ1 => use o δ1 fun x => asB x (fun k => if k = true then R (.d (.bool true)) δ1 else u δ1 R) .mk) := by
  unfold wOrV; simp only [← ex_bool, ← ex_int]
omit [Tb] in
@[simp ↓] theorem wNotV_ap (w : DE) (δ : DS) (R : Opd → DS → Prop) : wNotV w δ R = (w δ fun o δ1 => use o δ1 fun x => asB x (fun k => R (.d (.bool (!k))) δ1) .mk) := by
  unfold wNotV; simp only [← ex_bool, ← ex_int]
omit [Tb] in
@[simp ↓] theorem wIfE_ap (t : DT) (wa wb : DE) (δ : DS) (R : Opd → DS → Prop) : wIfE t wa wb δ R = (t δ fun k δ1 => if k = true then wa δ1 R else wb δ1 R) := rfl
omit [Tb] in
@[simp ↓] theorem wUn_ap (p : PyData → (PyData → Prop) → Prop) (w : DE) (δ : DS) (R : Opd → DS → Prop) : wUn p w δ R = (w δ fun o δ1 => use o δ1 fun x => p x fun z => R (.d z) δ1) := rfl
omit [Tb] in
@[simp ↓] theorem wTup_ap (w : DA) (δ : DS) (R : Opd → DS → Prop) : wTup w δ R = (w δ fun os δ1 => lkL os δ1 fun xs δ2 => xs.length ≤ 1000 ∧ R (.d (.tuple xs)) δ2) := rfl
omit [Tb] in
@[simp ↓] theorem wLst_ap (w : DA) (δ : DS) (R : List PyData → DS → Prop) : wLst w δ R = (w δ fun os δ1 => lkL os δ1 fun xs δ2 => xs.length ≤ 1000 ∧ R xs δ2) := rfl
omit [Tb] in
@[simp ↓] theorem wDic_ap (δ : DS) (R : Opd → DS → Prop) : wDic  δ R = (R (.d (.dict [])) δ) := rfl
omit [Tb] in
@[simp ↓] theorem wFn_ap (p : PN) (w : DA) (δ : DS) (R : Opd → DS → Prop) : wFn p w δ R = (w δ fun os δ1 => useL os δ1 fun xs => p xs fun z => R (.d z) δ1) := rfl
omit [Tb] in
@[simp ↓] theorem wFnL_ap (p : List PyData → (List PyData → Prop) → Prop) (w : DA) (δ : DS) (R : List PyData → DS → Prop) : wFnL p w δ R = (w δ fun os δ1 => useL os δ1 fun xs => p xs fun z => R z δ1) := rfl
omit [Tb] in
@[simp ↓] theorem wOpL_ap (p : P2L) (wa wb : DE) (δ : DS) (R : List PyData → DS → Prop) : wOpL p wa wb δ R = (wa δ fun o1 δ1 => wb δ1 fun o2 δ2 => use o1 δ2 fun x => use o2 δ2 fun y => p x y fun z => R z δ2) := rfl
omit [Tb] in
@[simp ↓] theorem wNoP_ap (δ : DS) (R : Option Int → DS → Prop) : wNoP  δ R = (R none δ) := rfl
omit [Tb] in
@[simp ↓] theorem wPart_ap (w : DE) (δ : DS) (R : Option Int → DS → Prop) : wPart w δ R = (w δ fun o δ1 => use o δ1 fun x => asI x (fun i => R (some i) δ1) .mk) := by
  unfold wPart; simp only [← ex_bool, ← ex_int]
omit [Tb] in
@[simp ↓] theorem wSl_ap (p : P3) (w : DE) (l h : DO) (δ : DS) (R : Opd → DS → Prop) : wSl p w l h δ R = (w δ fun o δ1 => l δ1 fun i δ2 => h δ2 fun j δ3 => use o δ3 fun x => p x i j fun z => R (.d z) δ3) := rfl
omit [Tb] in
@[simp ↓] theorem pSub_ap (i j : Int) (R : PyData → Prop) : pSub (.int i) (.int j) R = (R (.int (i - j))) := rfl
omit [Tb] in
@[simp ↓] theorem pMul_intiintj (i : Int) (j : Int) (R : PyData → Prop) : pMul (.int i) (.int j) R = ((CMul i j ∨ CMulW i j) ∧ R (.int (i * j))) := rfl
omit [Tb] in
@[simp ↓] theorem pMul_listxsintk (xs : List PyData) (k : Int) (R : PyData → Prop) : pMul (.list xs) (.int k) R = (0 ≤ k ∧ xs.length * k.toNat ≤ 1000000 ∧ k < 1000000 ∧ R (.list (List.replicate k.toNat xs).flatten)) := rfl
omit [Tb] in
@[simp ↓] theorem pDiv_ap (i j : Int) (R : PyData → Prop) : pDiv (.int i) (.int j) R = ((0 < j ∧ j.natAbs.log2 < 9000) ∧ R (.int (i / j))) := rfl
omit [Tb] in
@[simp ↓] theorem pMod_ap (i j : Int) (R : PyData → Prop) : pMod (.int i) (.int j) R = (0 < j ∧ R (.int (i % j))) := rfl
omit [Tb] in
@[simp ↓] theorem pPow_ap (i j : Int) (R : PyData → Prop) : pPow (.int i) (.int j) R = (CPow i j ∧ R (.int (i ^ j.toNat))) := rfl
omit [Tb] in
@[simp ↓] theorem pShl_ap (i j : Int) (R : PyData → Prop) : pShl (.int i) (.int j) R = (CPow i j ∧ R (.int (i * 2 ^ j.toNat))) := rfl
omit [Tb] in
@[simp ↓] theorem pAnd_ap (i j : Int) (R : PyData → Prop) : pAnd (.int i) (.int j) R = (R (.int (Builtin.bitAnd i j))) := rfl
omit [Tb] in
@[simp ↓] theorem pOr_ap (i j : Int) (R : PyData → Prop) : pOr (.int i) (.int j) R = (R (.int (Builtin.bitOr i j))) := rfl
omit [Tb] in
@[simp ↓] theorem pLt_intiintj (i : Int) (j : Int) (R : PyData → Prop) : pLt (.int i) (.int j) R = (R (.bool (decide (i < j)))) := rfl
omit [Tb] in
@[simp ↓] theorem pLe_ap (i j : Int) (R : PyData → Prop) : pLe (.int i) (.int j) R = (R (.bool (decide (i ≤ j)))) := rfl
omit [Tb] in
@[simp ↓] theorem pGt_ap (i j : Int) (R : PyData → Prop) : pGt (.int i) (.int j) R = (R (.bool (decide (j < i)))) := rfl
omit [Tb] in
@[simp ↓] theorem pGe_ap (i j : Int) (R : PyData → Prop) : pGe (.int i) (.int j) R = (R (.bool (decide (j ≤ i)))) := rfl
omit [Tb] in
@[simp ↓] theorem pAdd_intiintj (i : Int) (j : Int) (R : PyData → Prop) : pAdd (.int i) (.int j) R = (R (.int (i + j))) := rfl
omit [Tb] in
@[simp ↓] theorem pAdd_strastrb (a : Str) (b : Str) (R : PyData → Prop) : pAdd (.str a) (.str b) R = (a.length + b.length ≤ 1000000 ∧ R (.str (a ++ b))) := rfl
omit [Tb] in
@[simp ↓] theorem pAdd_tuplexstupleys (xs : List PyData) (ys : List PyData) (R : PyData → Prop) : pAdd (.tuple xs) (.tuple ys) R = (xs.length + ys.length ≤ 1000000 ∧ R (.tuple (xs ++ ys))) := rfl
omit [Tb] in
@[simp ↓] theorem pAdd_listxslistys (xs : List PyData) (ys : List PyData) (R : PyData → Prop) : pAdd (.list xs) (.list ys) R = (xs.length + ys.length ≤ 1000000 ∧ R (.list (xs ++ ys))) := rfl
omit [Tb] in
@[simp ↓] theorem pIs_boolaboolb (a : Bool) (b : Bool) (R : PyData → Prop) : pIs (.bool a) (.bool b) R = (R (.bool (decide (a = b)))) := rfl
omit [Tb] in
@[simp ↓] theorem pIsNot_boolaboolb (a : Bool) (b : Bool) (R : PyData → Prop) : pIsNot (.bool a) (.bool b) R = (R (.bool (!decide (a = b)))) := rfl
omit [Tb] in
@[simp ↓] theorem pIx_l (ds : List PyData) (i : Int) (R : PyData → Prop) : pIx (.list ds) (.int i) R = onS (atI ds i) R .mk := by rw [← ex_some]; rfl
omit [Tb] in
@[simp ↓] theorem pIx_t (ds : List PyData) (i : Int) (R : PyData → Prop) : pIx (.tuple ds) (.int i) R = onS (atI ds i) R .mk := by rw [← ex_some]; rfl
omit [Tb] in
@[simp ↓] theorem pIx_s (z : Str) (i : Int) (R : PyData → Prop) : pIx (.str z) (.int i) R = (z.length ≤ 1000000 ∧ onS (atI z.cps.toList i) (fun c => R (.str ⟨#[c]⟩)) .mk) := by rw [← ex_some]; rfl
omit [Tb] in
@[simp ↓] theorem mE_ap (w : DE) (δ : DS) (R : Cell → DS → Prop) : mE w δ R = (w δ fun o δ1 => lk o δ1 fun x δ2 => R (.d x) δ2) := rfl
omit [Tb] in
@[simp ↓] theorem mL_ap (w : DL) (δ : DS) (R : Cell → DS → Prop) : mL w δ R = (w δ fun xs δ1 => ∀ a, R (.ol a xs) δ1) := rfl
omit [Tb] in
@[simp ↓] theorem msNil_ap (δ : DS) (R : List Cell → DS → Prop) : msNil  δ R = (R [] δ) := rfl
omit [Tb] in
@[simp ↓] theorem msCons_ap (w : DM) (r : DMs) (δ : DS) (R : List Cell → DS → Prop) : msCons w r δ R = (w δ fun c δ1 => r δ1 fun cs δ2 => R (c :: cs) δ2) := rfl
omit [Tb] in
@[simp ↓] theorem wNext_ap (E : DEnds) (δ : DS) : wNext  E δ = (E.nx δ) := rfl
omit [Tb] in
@[simp ↓] theorem wSeq_ap (t u : DTS) (E : DEnds) (δ : DS) : wSeq t u E δ = (t { E with nx := u E } δ) := rfl
omit [Tb] in
@[simp ↓] theorem wBrk_ap (E : DEnds) (δ : DS) : wBrk  E δ = (E.bk δ) := rfl
omit [Tb] in
@[simp ↓] theorem wCnt_ap (E : DEnds) (δ : DS) : wCnt  E δ = (E.ct δ) := rfl
omit [Tb] in
@[simp ↓] theorem wRet_ap (w : DE) (E : DEnds) (δ : DS) : wRet w E δ = (w δ fun o δ1 => lk o δ1 fun x δ2 => E.rt x δ2) := rfl
omit [Tb] in
@[simp ↓] theorem wRetN_ap (E : DEnds) (δ : DS) : wRetN  E δ = (E.rt .none δ) := rfl
omit [Tb] in
@[simp ↓] theorem wIf_ap (c : DT) (t u : DTS) (E : DEnds) (δ : DS) : wIf c t u E δ = (c δ fun b δ1 => if b = true then t E δ1 else u E δ1) := rfl
omit [Tb] in
@[simp ↓] theorem wNever_ap (x0 : DEnds) (x1 : DS) : wNever  x0 x1 = (False) := rfl
omit [Tb] in
@[simp ↓] theorem wDrop_ap (w : DE) (E : DEnds) (δ : DS) : wDrop w E δ = (w δ fun _ δ1 => E.nx δ1) := rfl
omit [Tb] in
@[simp ↓] theorem wSet_ap (i : Nat) (w : DM) (E : DEnds) (δ : DS) : wSet i w E δ = (w δ fun c δ1 => E.nx (δ1.set i c)) := rfl
omit [Tb] in
@[simp ↓] theorem wPar2_ap (i j : Nat) (w : DMs) (E : DEnds) (δ : DS) : wPar2 i j w E δ = (w δ fun cs δ1 => match cs with
  | [c, d] => E.nx ((δ1.set i c).set j d)
  | _ => False) := by
  unfold wPar2
  congr 1; funext cs δ1
  match cs with
  | [] => simp
  | [c] => simp
  | [c, d] => exact propext ⟨fun ⟨c', d', e, h⟩ => by cases e; exact h, fun h => ⟨c, d, rfl, h⟩⟩
  | c :: d :: e :: r => simp
omit [Tb] in
@[simp ↓] theorem wAug_ap (i : Nat) (p : P2) (w : DE) (E : DEnds) (δ : DS) : wAug i p w E δ = onD δ[i]? (fun x => w δ fun o δ1 => use o δ1 fun y => p x y fun z => E.nx (δ1.set i (.d z))) .mk := by
  rw [← ex_d]; rfl
omit [Tb] in
@[simp ↓] theorem gN_ap (i : Nat) (x : PyData) (δ : DS) (R : DS → Prop) : gN i x δ R = (R (δ.set i (.d x))) := rfl
omit [Tb] in
@[simp ↓] theorem gsNil_ap (xs : List PyData) (δ : DS) (R : DS → Prop) : gsNil  xs δ R = (match xs with
  | [] => R δ
  | _ => False) := rfl
omit [Tb] in
@[simp ↓] theorem gsCons_ap (g : DTG) (r : DTGs) (xs : List PyData) (δ : DS) (R : DS → Prop) : gsCons g r xs δ R = (match xs with
  | x :: xs => g x δ fun δ1 => r xs δ1 R
  | [] => False) := rfl
omit [Tb] in
@[simp ↓] theorem gT_ap (r : DTGs) (x : PyData) (δ : DS) (R : DS → Prop) : gT r x δ R = (match x with
  | .tuple xs => r xs δ R
  | _ => False) := rfl
omit [Tb] in
@[simp ↓] theorem iSeq_ap (w : DE) (δ : DS) (R : List PyData → DS → Prop) : iSeq w δ R = (w δ fun o δ1 => lk o δ1 fun x δ2 => asS x (fun xs => R xs δ2) .mk) := rfl
def rng1 (xs : List PyData) (k : Int → Prop) (_u : Stop k) : Prop := ∃ j, xs = [PyData.int j] ∧ k j
def rng2 (xs : List PyData) (k : Int → Int → Prop) (_u : Stop k) : Prop := ∃ i j, xs = [PyData.int i, PyData.int j] ∧ k i j
omit [Tb] in
@[simp ↓] theorem rng1_i (j : Int) (k : Int → Prop) (u : Stop k) : rng1 [.int j] k u = k j := propext ⟨fun ⟨_, e, h⟩ => by cases e; exact h, fun h => ⟨j, rfl, h⟩⟩
omit [Tb] in
@[simp ↓] theorem rng2_i (i j : Int) (k : Int → Int → Prop) (u : Stop k) : rng2 [.int i, .int j] k u = k i j := propext ⟨fun ⟨_, _, e, h⟩ => by cases e; exact h, fun h => ⟨i, j, rfl, h⟩⟩
omit [Tb] in
@[simp ↓] theorem iRange1_ap (w : DA) (δ : DS) (R : List PyData → DS → Prop) : iRange1 w δ R = (w δ fun os δ1 => useL os δ1 fun xs => rng1 xs (fun j => -1000000 ≤ j ∧ j ≤ 1000000 ∧ R (nums 0 j.toNat) δ1) .mk) := rfl
omit [Tb] in
@[simp ↓] theorem iRange2_ap (w : DA) (δ : DS) (R : List PyData → DS → Prop) : iRange2 w δ R = (w δ fun os δ1 => useL os δ1 fun xs => rng2 xs (fun i j => (-1000000 ≤ i ∧ i ≤ 1000000 ∧ -1000000 ≤ j ∧ j ≤ 1000000) ∧ R (nums i (j - i).toNat) δ1) .mk) := rfl
omit [Tb] in
@[simp ↓] theorem wFor_ap (wi : DL) (g : DTG) (b : DTS) (E : DEnds) (δ : DS) : wFor wi g b E δ = (wi δ fun xs δ1 => forC g b xs δ1 E .mk) := rfl
omit [Tb] in
@[simp ↓] theorem wWhile_ap (c : DT) (b : DTS) (E : DEnds) (δ : DS) : wWhile c b E δ = whileC c b δ E .mk := rfl
omit [Tb] in
@[simp ↓] theorem wComp_ap (wi : DL) (g : DTG) (t : DT) (e : DE) (vs : List Nat) (δ : DS) (R : List PyData → DS → Prop) : wComp wi g t e vs δ R = (wi δ fun xs δ1 => comC g t e vs xs [] (wipeD δ1 vs) (fun ys δ2 => R ys (backD δ1 δ2 vs)) .mk) := rfl
omit [Tb] in
@[simp ↓] theorem wAppend_ap (i : Nat) (w : DE) (E : DEnds) (δ : DS) : wAppend i w E δ = (isOl δ i ∧ w δ fun o δ1 => lk o δ1 fun y δ2 => olC δ2[i]? (fun a xs => xs.length ≤ 1000000 ∧ E.nx (δ2.set i (.ol a (xs ++ [y])))) .mk) := rfl
omit [Tb] in
@[simp ↓] theorem wExtend_ap (i : Nat) (w : DE) (E : DEnds) (δ : DS) : wExtend i w E δ = (isOl δ i ∧ w δ fun o δ1 => use o δ1 fun y => ∃ ys, y = .list ys ∧ olC δ1[i]? (fun a xs => xs.length + ys.length ≤ 1000000 ∧ E.nx (δ1.set i (.ol a (xs ++ ys)))) .mk) := rfl
omit [Tb] in
@[simp ↓] theorem wPut_ap (i : Nat) (we wi : DE) (E : DEnds) (δ : DS) : wPut i we wi E δ = (we δ fun o δ1 => lk o δ1 fun y δ2 => isOl δ2 i ∧ wi δ2 fun oj δ3 => use oj δ3 fun j => asI j (fun j => olC δ3[i]? (fun a xs => ∃ n, ixN xs.length j = some n ∧ E.nx (δ3.set i (.ol a (xs.set n y)))) .mk) .mk) := by
  unfold wPut
  congr 1; funext o δ1; congr 1; funext y δ2; congr 1; congr 1; funext oj δ3; congr 1; funext j
  cases j <;> simp only [asI]
  cases δ3[i]? with
  | none => rfl
  | some c => cases c <;> rfl
omit [Tb] in
@[simp ↓] theorem wPop_ap (i : Nat) (δ : DS) (R : Opd → DS → Prop) : wPop i δ R = olC δ[i]? (fun a xs => onS xs.getLast? (fun y => R (.d y) (δ.set i (.ol a xs.dropLast))) .mk) .mk := by
  unfold wPop
  cases δ[i]? with
  | none => rfl
  | some c => cases c <;> first | rfl | exact ex_some _ _
omit [Tb] in
@[simp ↓] theorem wCall_ap (m : List Bool) (sp : DSp) (w : DA) (δ : DS) (R : Opd → DS → Prop) : wCall m sp w δ R = (w δ fun os δ1 => lkM m os δ1 fun os' δ2 => (slotsOf os').Nodup ∧ ask sp (os'.map (cellOf δ2)) (fun x cs => R (.d x) (putBack os' cs δ2)) .mk) := rfl
omit [Tb] in
@[simp ↓] theorem iZip2_ap (w : DA) (δ : DS) (R : List PyData → DS → Prop) : iZip2 w δ R = (w δ fun os δ1 => lkL os δ1 fun ds δ2 => match ds with
  | [a, b] => onS (seqOf a) (fun xs => onS (seqOf b) (fun ys => R (pairsD xs ys) δ2) .mk) .mk
  | _ => False) := by
  unfold iZip2; simp only [← ex_some, ← exists_and_left] <;> rfl
omit [Tb] in
@[simp ↓] theorem iZip3_ap (w : DA) (δ : DS) (R : List PyData → DS → Prop) : iZip3 w δ R = (w δ fun os δ1 => lkL os δ1 fun ds δ2 => match ds with
  | [a, b, c] => onS (seqOf a) (fun xs => onS (seqOf b) (fun ys => onS (seqOf c) (fun zs => R (triosD xs ys zs) δ2) .mk) .mk) .mk
  | _ => False) := by
  unfold iZip3; simp only [← ex_some, ← exists_and_left] <;> rfl
omit [Tb] in
@[simp ↓] theorem iEnumD_ap (w : DA) (δ : DS) (R : List PyData → DS → Prop) : iEnumD w δ R = (w δ fun os δ1 => lkL os δ1 fun ds δ2 => match ds with
  | [a] => onS (seqOf a) (fun xs => R (numbered 0 xs) δ2) .mk
  | _ => False) := by
  unfold iEnumD; simp only [← ex_some] <;> rfl
omit [Tb] in
@[simp ↓] theorem use_d (x : PyData) (δ : DS) (k : PyData → Prop) : use (.d x) δ k = k x := rfl
omit [Tb] in
@[simp ↓] theorem use_s (i : Nat) (δ : DS) (k : PyData → Prop) : use (.s i) δ k = useC δ[i]? k .mk := rfl
omit [Tb] in
@[simp ↓] theorem lk_d (x : PyData) (δ : DS) (k : PyData → DS → Prop) : lk (.d x) δ k = k x δ := rfl
omit [Tb] in
@[simp ↓] theorem lk_s (i : Nat) (δ : DS) (k : PyData → DS → Prop) : lk (.s i) δ k = lkC δ[i]? (fun x => k x δ) (fun x => k x (δ.set i (.d x))) .mk .mk := by
  show (match δ[i]? with
    | some (.d x) => k x δ
    | some (.ol _ xs) => k (.list xs) (δ.set i (.d (.list xs)))
    | _ => False) = _
  unfold lkC
  cases δ[i]? with
  | none => rfl
  | some c => cases c <;> rfl
omit [Tb] in
@[simp ↓] theorem useL_nil (δ : DS) (k : List PyData → Prop) : useL [] δ k = k [] := rfl
omit [Tb] in
@[simp ↓] theorem useL_cons (o : Opd) (os : List Opd) (δ : DS) (k : List PyData → Prop) : useL (o :: os) δ k = (use o δ fun x => useL os δ fun xs => k (x :: xs)) := rfl
omit [Tb] in
@[simp ↓] theorem lkL_nil (δ : DS) (k : List PyData → DS → Prop) : lkL [] δ k = k [] δ := rfl
omit [Tb] in
@[simp ↓] theorem lkL_cons (o : Opd) (os : List Opd) (δ : DS) (k : List PyData → DS → Prop) : lkL (o :: os) δ k = (lk o δ fun x δ1 => lkL os δ1 fun xs δ2 => k (x :: xs) δ2) := rfl
omit [Tb] in
@[simp ↓] theorem lkM_nil (m : List Bool) (δ : DS) (k : List Opd → DS → Prop) : lkM m [] δ k = k [] δ := by unfold lkM; rfl
omit [Tb] in
@[simp ↓] theorem lkM_t (m : List Bool) (o : Opd) (os : List Opd) (δ : DS) (k : List Opd → DS → Prop) : lkM (true :: m) (o :: os) δ k = (lkM m os δ fun r δ' => k (o :: r) δ') := by
  conv => lhs; unfold lkM
  rfl
omit [Tb] in
@[simp ↓] theorem lkM_f (m : List Bool) (o : Opd) (os : List Opd) (δ : DS) (k : List Opd → DS → Prop) : lkM (false :: m) (o :: os) δ k = (lk o δ fun x δ1 => lkM m os δ1 fun r δ' => k (.d x :: r) δ') := by
  conv => lhs; unfold lkM
  rfl
omit [Tb] in
@[simp ↓] theorem lkM_0 (o : Opd) (os : List Opd) (δ : DS) (k : List Opd → DS → Prop) : lkM [] (o :: os) δ k = (lk o δ fun x δ1 => lkM [] os δ1 fun r δ' => k (.d x :: r) δ') := by
  conv => lhs; unfold lkM
  rfl
omit [Tb] in
@[simp] theorem cellOf_d (δ : DS) (x : PyData) : cellOf δ (.d x) = .d x := rfl
omit [Tb] in
@[simp] theorem cellOf_s (δ : DS) (i : Nat) : cellOf δ (.s i) = (δ[i]?).getD .em := rfl
omit [Tb] in
@[simp ↓] theorem putBack_nil (cs : List Cell) (δ : DS) : putBack [] cs δ = δ := by cases cs <;> rfl
omit [Tb] in
@[simp ↓] theorem putBack_s (i : Nat) (os : List Opd) (c : Cell) (cs : List Cell) (δ : DS) : putBack (.s i :: os) (c :: cs) δ = putBack os cs (δ.set i c) := rfl
omit [Tb] in
@[simp ↓] theorem putBack_d (x : PyData) (os : List Opd) (c : Cell) (cs : List Cell) (δ : DS) : putBack (.d x :: os) (c :: cs) δ = putBack os cs δ := rfl
omit [Tb] in
@[simp] theorem slotsOf_nil : slotsOf [] = [] := rfl
omit [Tb] in
@[simp] theorem slotsOf_s (i : Nat) (os : List Opd) : slotsOf (.s i :: os) = i :: slotsOf os := rfl
omit [Tb] in
@[simp] theorem slotsOf_d (x : PyData) (os : List Opd) : slotsOf (.d x :: os) = slotsOf os := rfl
omit [Tb] in
@[simp ↓] theorem pNeg_i (i : Int) (R : PyData → Prop) : pNeg (.int i) R = R (.int (-i)) := rfl
omit [Tb] in
@[simp ↓] theorem pIs_n (x : PyData) (R : PyData → Prop) : pIs x .none R = R (.bool (isNone x)) := by cases x <;> rfl
omit [Tb] in
@[simp ↓] theorem pIsNot_n (x : PyData) (R : PyData → Prop) : pIsNot x .none R = R (.bool (!isNone x)) := by cases x <;> rfl
omit [Tb] in
@[simp ↓] theorem isNone_n : isNone .none = true := rfl
omit [Tb] in
@[simp ↓] theorem isNone_i (i : Int) : isNone (.int i) = false := rfl
omit [Tb] in
@[simp ↓] theorem isNone_b (i : Bool) : isNone (.bool i) = false := rfl
omit [Tb] in
@[simp ↓] theorem isNone_s (i : Str) : isNone (.str i) = false := rfl
omit [Tb] in
@[simp ↓] theorem isNone_l (i : List PyData) : isNone (.list i) = false := rfl
omit [Tb] in
@[simp ↓] theorem isNone_t (i : List PyData) : isNone (.tuple i) = false := rfl
omit [Tb] in
@[simp ↓] theorem isNone_d (i : List (PyData × PyData)) : isNone (.dict i) = false := rfl
omit [Tb] in
@[simp ↓] theorem pAddL_ll (xs ys : List PyData) (R : List PyData → Prop) : pAddL (.list xs) (.list ys) R = (xs.length + ys.length ≤ 1000000 ∧ R (xs ++ ys)) := rfl
omit [Tb] in
@[simp ↓] theorem pMulL_ll (xs : List PyData) (k : Int) (R : List PyData → Prop) : pMulL (.list xs) (.int k) R = (0 ≤ k ∧ xs.length * k.toNat ≤ 1000000 ∧ k < 1000000 ∧ R (List.replicate k.toNat xs).flatten) := rfl
omit [Tb] in
@[simp ↓] theorem pIn_l (x : PyData) (ds : List PyData) (R : PyData → Prop) : pIn x (.list ds) R = (SeqAt.shaped x = true ∧ SeqAt.shaped (.list ds) = true ∧ R (.bool (ds.any fun z => PyData.eqv z x))) := rfl
omit [Tb] in
@[simp ↓] theorem pIn_t (x : PyData) (ds : List PyData) (R : PyData → Prop) : pIn x (.tuple ds) R = (SeqAt.shaped x = true ∧ SeqAt.shaped (.tuple ds) = true ∧ R (.bool (ds.any fun z => PyData.eqv z x))) := rfl
omit [Tb] in
@[simp ↓] theorem pIn_s (x : PyData) (z : Str) (R : PyData → Prop) : pIn x (.str z) R = (∃ c : Nat, x = .str ⟨#[c]⟩ ∧ R (.bool (decide (c ∈ z.cps.toList)))) := rfl
omit [Tb] in
@[simp ↓] theorem pNotIn_l (x : PyData) (ds : List PyData) (R : PyData → Prop) : pNotIn x (.list ds) R = (SeqAt.shaped x = true ∧ SeqAt.shaped (.list ds) = true ∧ R (.bool (!ds.any fun z => PyData.eqv z x))) := rfl
omit [Tb] in
@[simp ↓] theorem pNotIn_t (x : PyData) (ds : List PyData) (R : PyData → Prop) : pNotIn x (.tuple ds) R = (SeqAt.shaped x = true ∧ SeqAt.shaped (.tuple ds) = true ∧ R (.bool (!ds.any fun z => PyData.eqv z x))) := rfl
omit [Tb] in
@[simp ↓] theorem pNotIn_s (x : PyData) (z : Str) (R : PyData → Prop) : pNotIn x (.str z) R = (∃ c : Nat, x = .str ⟨#[c]⟩ ∧ R (.bool (!decide (c ∈ z.cps.toList)))) := rfl
omit [Tb] in
@[simp ↓] theorem pSl_l (ds : List PyData) (lo hi : Option Int) (R : PyData → Prop) : pSl (.list ds) lo hi R = R (.list (cutD ds lo hi)) := rfl
omit [Tb] in
@[simp ↓] theorem pSl_t (ds : List PyData) (lo hi : Option Int) (R : PyData → Prop) : pSl (.tuple ds) lo hi R = R (.tuple (cutD ds lo hi)) := rfl
omit [Tb] in
@[simp ↓] theorem pSl_s (z : Str) (lo hi : Option Int) (R : PyData → Prop) : pSl (.str z) lo hi R = (z.length ≤ 1000000 ∧ R (.str (cutS z lo hi))) := rfl
omit [Tb] in
@[simp ↓] theorem pLen_l (ds : List PyData) (R : PyData → Prop) : pLen [.list ds] R = R (.int ds.length) := rfl
omit [Tb] in
@[simp ↓] theorem pLen_t (ds : List PyData) (R : PyData → Prop) : pLen [.tuple ds] R = R (.int ds.length) := rfl
omit [Tb] in
@[simp ↓] theorem pLen_s (z : Str) (R : PyData → Prop) : pLen [.str z] R = (z.length ≤ 1000000 ∧ R (.int z.length)) := rfl
omit [Tb] in
@[simp ↓] theorem pTupOf_l (ds : List PyData) (R : PyData → Prop) : pTupOf [.list ds] R = R (.tuple ds) := rfl
omit [Tb] in
@[simp ↓] theorem pTupOf_t (ds : List PyData) (R : PyData → Prop) : pTupOf [.tuple ds] R = R (.tuple ds) := rfl
omit [Tb] in
@[simp ↓] theorem pLstOf_l (ds : List PyData) (R : List PyData → Prop) : pLstOf [.list ds] R = R ds := rfl
omit [Tb] in
@[simp ↓] theorem pLstOf_t (ds : List PyData) (R : List PyData → Prop) : pLstOf [.tuple ds] R = R ds := rfl
omit [Tb] in
@[simp ↓] theorem pInt_i (i : Int) (R : PyData → Prop) : pInt [.int i] R = R (.int i) := rfl
omit [Tb] in
@[simp ↓] theorem pInt_b (b : Bool) (R : PyData → Prop) : pInt [.bool b] R = R (.int (if b then 1 else 0)) := rfl
omit [Tb] in
@[simp ↓] theorem pInt_s (z : Str) (R : PyData → Prop) : pInt [.str z] R = (∃ n, PySem.intText? z = some n ∧ z.length ≤ 640 ∧ R (.int n)) := rfl
omit [Tb] in
@[simp ↓] theorem pBool_i (i : Int) (R : PyData → Prop) : pBool [.int i] R = R (.bool (i != 0)) := rfl
omit [Tb] in
@[simp ↓] theorem pBool_b (b : Bool) (R : PyData → Prop) : pBool [.bool b] R = R (.bool b) := rfl
omit [Tb] in
@[simp ↓] theorem pStr_i (i : Int) (R : PyData → Prop) : pStr [.int i] R = (i.natAbs.log2 < 1920 ∧ R (.str (toString i))) := rfl
omit [Tb] in
@[simp ↓] theorem pStr_s (z : Str) (R : PyData → Prop) : pStr [.str z] R = R (.str z) := rfl
omit [Tb] in
@[simp ↓] theorem pAbs_i (i : Int) (R : PyData → Prop) : pAbs [.int i] R = R (.int (if i < 0 then -i else i)) := rfl
omit [Tb] in
@[simp ↓] theorem pMax2_i (i j : Int) (R : PyData → Prop) : pMax2 [.int i, .int j] R = R (.int (if j > i then j else i)) := rfl
omit [Tb] in
@[simp ↓] theorem pMin2_i (i j : Int) (R : PyData → Prop) : pMin2 [.int i, .int j] R = R (.int (if j < i then j else i)) := rfl
omit [Tb] in
@[simp ↓] theorem pSum_l (ds : List PyData) (R : PyData → Prop) : pSum [.list ds] R = onIs ds (fun ns => R (.int ns.sum)) .mk := rfl
omit [Tb] in
@[simp ↓] theorem pMax_l (ds : List PyData) (R : PyData → Prop) : pMax [.list ds] R = onIs ds (fun ns => 0 < ns.length ∧ ∀ m, m ∈ ns → (∀ y ∈ ns, y ≤ m) → R (.int m)) .mk := rfl
omit [Tb] in
@[simp ↓] theorem pMin_l (ds : List PyData) (R : PyData → Prop) : pMin [.list ds] R = onIs ds (fun ns => 0 < ns.length ∧ ∀ m, m ∈ ns → (∀ y ∈ ns, m ≤ y) → R (.int m)) .mk := rfl
omit [Tb] in
@[simp ↓] theorem pAll_l (ds : List PyData) (R : PyData → Prop) : pAll [.list ds] R = onBs ds (fun bs => R (.bool (allTr bs))) .mk := rfl
omit [Tb] in
@[simp ↓] theorem pAny_l (ds : List PyData) (R : PyData → Prop) : pAny [.list ds] R = onBs ds (fun bs => R (.bool (anyTr bs))) .mk := rfl
omit [Tb] in
@[simp ↓] theorem pRepr_x (x : PyData) (R : PyData → Prop) : pRepr [x] R = (x.showable = true ∧ x.hasDict = false ∧ x.depth ≤ 60 ∧ x.shown.length ≤ 16000000 ∧ R (.str x.shown)) := rfl
omit [Tb] in
@[simp ↓] theorem wIsi_ap (T : String) (w : DE) (δ : DS) (R : Opd → DS → Prop) : wIsi T w δ R = (w δ fun o δ1 => use o δ1 fun x => R (.d (.bool (isTy T x))) δ1) := rfl
omit [Tb] in
@[simp ↓] theorem wRevL_ap (w : DE) (δ : DS) (R : Opd → DS → Prop) : wRevL w δ R = (w δ fun o δ1 => use o δ1 fun x => ∃ ds, x = .list ds ∧ R (.d (.list ds.reverse)) δ1) := rfl
omit [Tb] in
@[simp] theorem tT_ap (δ : DS) (R : Bool → DS → Prop) : tT δ R = R true δ := rfl
omit [Tb] in
@[simp ↓] theorem wipeD_nil (δ : DS) : wipeD δ [] = δ := rfl
omit [Tb] in
@[simp ↓] theorem wipeD_cons (δ : DS) (v : Nat) (vs : List Nat) : wipeD δ (v :: vs) = (wipeD δ vs).set v .em := rfl
omit [Tb] in
@[simp] theorem backD_nil (δ0 δ : DS) : backD δ0 δ [] = δ := rfl
omit [Tb] in
@[simp] theorem backD_cons (δ0 δ : DS) (v : Nat) (vs : List Nat) : backD δ0 δ (v :: vs) = (backD δ0 δ vs).set v (keepC ((δ0[v]?).getD .em)) := rfl
omit [Tb] in
@[simp] theorem keepC_d (x : PyData) : keepC (.d x) = .d x := rfl
omit [Tb] in
@[simp] theorem keepC_em : keepC .em = .em := rfl
omit [Tb] in
@[simp ↓] theorem isOl_ol (a : Addr) (xs : List PyData) (δ : DS) (i : Nat) (h : δ[i]? = some (.ol a xs)) : isOl δ i = True := eq_true ⟨a, xs, h⟩
omit [Tb] in
@[simp] theorem seqOf_l (xs : List PyData) : seqOf (.list xs) = some xs := rfl
omit [Tb] in
@[simp] theorem seqOf_t (xs : List PyData) : seqOf (.tuple xs) = some xs := rfl
omit [Tb] in
@[simp] theorem endsOf_nx (cs : List Cell) (R : PyData → List Cell → Prop) (δ : DS) : (endsOf cs R).nx δ = (sameIo cs δ ∧ R .none (outC cs δ)) := rfl
omit [Tb] in
@[simp] theorem endsOf_rt (cs : List Cell) (R : PyData → List Cell → Prop) (x : PyData) (δ : DS) : (endsOf cs R).rt x δ = (sameIo cs δ ∧ R x (outC cs δ)) := rfl
omit [Tb] in
@[simp] theorem sameIo_nil (δ : DS) : sameIo [] δ = True := by unfold sameIo; rfl
omit [Tb] in
@[simp] theorem sameIo_d (x : PyData) (cs : List Cell) (e : Cell) (δ : DS) : sameIo (.d x :: cs) (e :: δ) = sameIo cs δ := rfl
omit [Tb] in
@[simp] theorem sameIo_em (cs : List Cell) (e : Cell) (δ : DS) : sameIo (.em :: cs) (e :: δ) = sameIo cs δ := rfl
omit [Tb] in
@[simp] theorem sameIo_scr (a : Addr) (ns : List Int) (cs : List Cell) (e : Cell) (δ : DS) : sameIo (.scr a ns :: cs) (e :: δ) = sameIo cs δ := rfl
omit [Tb] in
@[simp] theorem sameIo_ol (a : Addr) (xs : List PyData) (cs : List Cell) (e : Cell) (δ : DS) : sameIo (.ol a xs :: cs) (e :: δ) = ((∃ ys, e = .ol a ys) ∧ sameIo cs δ) := rfl
omit [Tb] in
@[simp] theorem sameIo_dk (a b c : Addr) (cs : List Cell) (e : Cell) (δ : DS) : sameIo (.dk a b c :: cs) (e :: δ) = (e = .dk a b c ∧ sameIo cs δ) := rfl
omit [Tb] in
@[simp] theorem outC_nil (δ : DS) : outC [] δ = [] := by unfold outC; rfl
omit [Tb] in
@[simp] theorem outC_d (x : PyData) (cs : List Cell) (e : Cell) (δ : DS) : outC (.d x :: cs) (e :: δ) = .d x :: outC cs δ := rfl
omit [Tb] in
@[simp] theorem outC_em (cs : List Cell) (e : Cell) (δ : DS) : outC (.em :: cs) (e :: δ) = .em :: outC cs δ := rfl
omit [Tb] in
@[simp] theorem outC_scr (a : Addr) (ns : List Int) (cs : List Cell) (e : Cell) (δ : DS) : outC (.scr a ns :: cs) (e :: δ) = .scr a ns :: outC cs δ := rfl
omit [Tb] in
@[simp] theorem outC_ol (a : Addr) (xs : List PyData) (cs : List Cell) (e : Cell) (δ : DS) : outC (.ol a xs :: cs) (e :: δ) = e :: outC cs δ := rfl
omit [Tb] in
@[simp] theorem outC_dk (a b c : Addr) (cs : List Cell) (e : Cell) (δ : DS) : outC (.dk a b c :: cs) (e :: δ) = e :: outC cs δ := rfl
omit [Tb] in
@[simp] theorem start0_ap (n : Nat) (cs : List Cell) : start0 n cs = cs ++ List.replicate (n - cs.length) .em := rfl
theorem for_inv {g : DTG} {b : DTS} {xs : List PyData} {δ : DS} {E : DEnds} {u : Stop E} (P : List PyData → DS → Prop) (Q : DS → Prop) (Z : PyData → DS → Prop) (h : P xs δ) (h0 : ∀ δ, P [] δ → E.nx δ) (hq : ∀ δ, Q δ → E.nx δ) (hz : ∀ x δ, Z x δ → E.rt x δ)
    (hs : ∀ x xs δ, P (x :: xs) δ → ∀ (K B : DS → Prop) (T : PyData → DS → Prop), (∀ δ', P xs δ' → K δ') → (∀ δ', Q δ' → B δ') → (∀ x δ', Z x δ' → T x δ') → g x δ fun δ1 => b { nx := K, rt := T, bk := B, ct := K } δ1) : forC g b xs δ E u := by
  show forIt g b xs E δ
  induction xs generalizing δ with
  | nil => exact h0 δ h
  | cons x xs ih => exact hs x xs δ h _ _ _ (fun δ' p => ih p) hq hz
theorem com_inv {g : DTG} {t : DT} {e : DE} {vs : List Nat} {xs acc : List PyData} {δ : DS} {R : List PyData → DS → Prop} {u : Stop R} (P : List PyData → List PyData → DS → Prop) (h : P xs acc δ) (h0 : ∀ acc δ, P [] acc δ → R acc δ)
    (hs : ∀ x xs acc δ, P (x :: xs) acc δ → ∀ K : List PyData → DS → Prop, (∀ acc' δ', P xs acc' δ' → K acc' δ') → g x δ fun δ1 => t δ1 fun b δ2 => if b = true then e δ2 fun o δ3 => lk o δ3 fun y δ4 => K (acc ++ [y]) (wipeD δ4 vs) else K acc (wipeD δ2 vs)) : comC g t e vs xs acc δ R u := by
  show compIt g t e vs xs acc δ R
  induction xs generalizing acc δ with
  | nil => exact h0 acc δ h
  | cons x xs ih => exact hs x xs acc δ h (fun acc' δ' => compIt g t e vs xs acc' δ' R) fun acc' δ' p => ih p
omit [Tb] in
@[simp ↓] theorem pEq_ii (i j : Int) (R : PyData → Prop) : pEq (.int i) (.int j) R = R (.bool (decide (i = j))) := by
  unfold pEq; simp [sc2, PyData.eqv]; rfl
omit [Tb] in
@[simp ↓] theorem pEq_ss (i j : Str) (R : PyData → Prop) : pEq (.str i) (.str j) R = R (.bool (decide (i = j))) := by
  unfold pEq; simp [sc2, PyData.eqv]
  have : (i == j) = decide (i = j) := by rw [Bool.eq_iff_iff]; simp
  rw [this]
omit [Tb] in
@[simp ↓] theorem pEq_bb (i j : Bool) (R : PyData → Prop) : pEq (.bool i) (.bool j) R = R (.bool (i == j)) := by
  unfold pEq; simp [sc2, PyData.eqv]
omit [Tb] in
@[simp ↓] theorem pEq_tt (xs ys : List PyData) (R : PyData → Prop) : pEq (.tuple xs) (.tuple ys) R = (SeqAt.shaped (.tuple xs) = true ∧ SeqAt.shaped (.tuple ys) = true ∧ R (.bool (PyData.eqvAll xs ys))) := by
  unfold pEq; simp [sc2, PyData.eqv, and_assoc]
omit [Tb] in
@[simp ↓] theorem pEq_ll (xs ys : List PyData) (R : PyData → Prop) : pEq (.list xs) (.list ys) R = (SeqAt.shaped (.list xs) = true ∧ SeqAt.shaped (.list ys) = true ∧ R (.bool (PyData.eqvAll xs ys))) := by
  unfold pEq; simp [sc2, PyData.eqv, and_assoc]
omit [Tb] in
@[simp ↓] theorem pNe_ii (i j : Int) (R : PyData → Prop) : pNe (.int i) (.int j) R = R (.bool (!decide (i = j))) := by
  unfold pNe; simp [sc2, PyData.eqv]; rfl
omit [Tb] in
@[simp ↓] theorem pNe_ss (i j : Str) (R : PyData → Prop) : pNe (.str i) (.str j) R = R (.bool (!decide (i = j))) := by
  unfold pNe; simp [sc2, PyData.eqv]
  have : (i == j) = decide (i = j) := by rw [Bool.eq_iff_iff]; simp
  simp only [bne, this]
omit [Tb] in
@[simp ↓] theorem pNe_bb (i j : Bool) (R : PyData → Prop) : pNe (.bool i) (.bool j) R = R (.bool (!(i == j))) := by
  unfold pNe; simp [sc2, PyData.eqv]
omit [Tb] in
@[simp ↓] theorem pNe_tt (xs ys : List PyData) (R : PyData → Prop) : pNe (.tuple xs) (.tuple ys) R = (SeqAt.shaped (.tuple xs) = true ∧ SeqAt.shaped (.tuple ys) = true ∧ R (.bool (!PyData.eqvAll xs ys))) := by
  unfold pNe; simp [sc2, PyData.eqv, and_assoc]
omit [Tb] in
@[simp ↓] theorem pNe_ll (xs ys : List PyData) (R : PyData → Prop) : pNe (.list xs) (.list ys) R = (SeqAt.shaped (.list xs) = true ∧ SeqAt.shaped (.list ys) = true ∧ R (.bool (!PyData.eqvAll xs ys))) := by
  unfold pNe; simp [sc2, PyData.eqv, and_assoc]
end DL
set_option Elab.async false
set_option linter.all false
set_option maxRecDepth 100000
set_option maxHeartbeats 4000000
namespace DL
open PySem PySem.Spec PyProof.Rows L2
variable [Tb]

section
variable {K : PySem.W.Frag} {B B0 G H : Hp} {δ : DS} {σ : L2.St}
theorem Rel.less (R : Rel K B G δ σ H) (h : ∀ a, B0 a = B a ∨ B0 a = none) : Rel K B0 G δ σ H := by
  refine ⟨R.len, R.sg, fun a o e => ?_, fun a => ?_, R.ok, R.ap, fun i c a e m => ?_, ⟨R.tt.t, R.tt.n.lessB fun a o e => by
    rcases h a with z | z
    · rw [z] at e; exact e
    · rw [z] at e; cases e⟩⟩
  · rcases h a with z | z
    · rw [z] at e; exact R.sb _ _ e
    · rw [z] at e; cases e
  · rcases h a with z | z
    · rw [z]; exact R.dj a
    · exact .inr z
  · obtain ⟨f1, f2⟩ := R.fr i c a e m
    refine ⟨f1, ?_⟩
    rcases h a with z | z
    · rw [z]; exact f2
    · exact z
theorem Rel.more {l : List Addr} (R : Rel K B G δ σ H) (hg : ∀ a ∈ l, G a = none) (hc : ∀ (i : Nat) (c : Cell) (a : Addr), δ[i]? = some c → a ∈ c.fp → a ∉ l) (hn : ∀ a ∈ l, ∀ o, H a = some o → notTE o) : Rel K (bov B H l) G δ σ H := by
  refine ⟨R.len, R.sg, fun a o e => ?_, fun a => ?_, R.ok, R.ap, fun i c a e m => ?_, ⟨R.tt.t, ⟨fun a o e => by
    unfold bov at e
    split at e
    · rename_i hm; exact hn a hm o e
    · exact R.tt.n.b a o e, R.tt.n.g⟩⟩⟩
  · unfold bov at e
    split at e
    · exact e
    · exact R.sb _ _ e
  · unfold bov
    split
    · rename_i hm; exact .inl (hg a hm)
    · exact R.dj a
  · obtain ⟨f1, f2⟩ := R.fr i c a e m
    refine ⟨f1, ?_⟩
    unfold bov
    rw [if_neg (hc i c a e m)]; exact f2
end

abbrev DSpM := List Cell → (Cell → List Cell → Prop) → Prop
def liftM (K : PySem.W.Frag) (sp : DSpM) : Sp := fun vs H Q _ => ∃ B G cs R, Rel K B G cs (vs.map some) H ∧ sp cs R ∧ ∀ v H' G' c cs', R c cs' → Same G G' → Rel K (bov B H' c.fp) G' cs' (vs.map some) H' → (∀ a ∈ c.fp, B a = none) → CellOk K G' H' c (some v) → Q v H'
def wCallM (m : List Bool) (sp : DSpM) (w : DA) : DM := fun δ R => w δ fun os δ1 => lkM m os δ1 fun os' δ2 => (slotsOf os').Nodup ∧ sp (os'.map (cellOf δ2)) fun c cs => R c (putBack os' cs δ2)
def askM (sp : DSpM) (cs : List Cell) (R : Cell → List Cell → Prop) (_u : Stop R) : Prop := sp cs R
omit [Tb] in
@[simp ↓] theorem wCallM_ap (m : List Bool) (sp : DSpM) (w : DA) (δ : DS) (R : Cell → DS → Prop) : wCallM m sp w δ R = (w δ fun os δ1 => lkM m os δ1 fun os' δ2 => (slotsOf os').Nodup ∧ askM sp (os'.map (cellOf δ2)) (fun c cs => R c (putBack os' cs δ2)) .mk) := rfl
section
variable {X : Cx} {k : Nat} {f : Addr} {fd : FuncData} {ps : List Str} {x : Str} {p pos : Pos} {e : Expr} {es : List Expr}
theorem jm_call {m : List Bool} {sp : DSpM} {w : DA} (F : FnG X.prog X.w X.K X.mg X.base CX0 k f fd ps (liftM X.K sp)) (hr : RoomG k X.A) (hg : Gl X x) (hm : X.mg x = some (.ref f)) (hk : PySem.W.keepIn X.K (.ref f) = true) (hb : Binds X.K fd ps [])
    (ha : JA X (e :: es) w) (hdb : (x == ("__debug__" : Str)) = false := by decide) (he : starEach (e :: es) X.env = (false, eval e X.env) :: starEach es X.env := by rfl) (hpl : (backTo pos (starEach es X.env)).any (·.1) = false := by rfl) : JM X (.Call (.Name x p) (e :: es) [] pos) (wCallM m sp w) :=
  pe_le (pe_callG (E := E0) F hr hg hm hk hb pass0 ha hdb he hpl) fun pins s σ H Q I ⟨B, G, δ, R, rel, hw, k⟩ => ⟨B, G, δ, _, rel, hw, fun vs H1 G1 os δ1 r1 s1 rel1 ok1 => by
    obtain ⟨G2, δ2, os', ⟨nd, q⟩, s2, rel2, ok2⟩ := lkM_ok rel1 ok1 r1
    rw [List.append_nil]
    refine ⟨_, G2, _, _, call_rel rel2 ok2 nd, q, fun v H' G' c cs r s3 rel3 hB okc => ?_⟩
    have low : Rel X.K (hold B H1 δ2 (slotsOf os')) G' cs (vs.map some) H' := rel3.less fun a => by
      unfold bov
      split
      · rename_i hm; exact .inr (hB a hm)
      · exact .inl rfl
    have rel4 := call_back rel2 ok2 nd s3 low
    have hlen : os'.length = cs.length := by rw [← opds_len ok2, ← low.len, List.length_map]
    have tr : ∀ a ∈ c.fp, ∃ o, H' a = some o := fun a m => cell_tr okc m
    have hB0 : ∀ a ∈ c.fp, B a = none := fun a m => by
      have z := hB a m
      by_cases h : ∃ i c, δ2[i]? = some c ∧ a ∈ c.fp ∧ i ∉ slotsOf os'
      · obtain ⟨i, c', h1, h2, _⟩ := h
        exact (rel2.fr i c' a h1 h2).2
      · rw [hold_out h] at z; exact z
    have hG : ∀ a ∈ c.fp, G' a = none := fun a m => by
      rcases rel3.dj a with z | z
      · exact z
      · unfold bov at z
        rw [if_pos m] at z
        obtain ⟨o, eo⟩ := tr a m
        rw [eo] at z; cases z
    refine k v H' G' c _ r (s1.trans (s2.trans s3)) (rel4.more hG (fun i c' a e m ma => ?_) fun a m => cell_te okc m) hB0 okc
    rcases putBack_at hlen nd e with ⟨h1, h2⟩ | ⟨j, h1, h2⟩
    · have z := hB a ma
      rw [hold_in ⟨i, c', h2, m, h1⟩] at z
      obtain ⟨o, eo⟩ := rel2.tr h2 m
      rw [eo] at z; cases z
    · obtain ⟨_, f2⟩ := rel3.fr j c' a h2 m
      unfold bov at f2
      rw [if_pos ma] at f2
      obtain ⟨o, eo⟩ := tr a ma
      rw [eo] at f2; cases f2⟩
end

def spDeck : DSpM := fun cs R => ∃ a ns, cs = [.scr a ns] ∧ ∀ p b c, R (.dk p b c) [.scr a ns]
def wCut (i : Nat) : DE := fun δ R => ∃ a ns, δ[i]? = some (.scr a ns) ∧ R (.d (.list ((ns.take 63).map PyData.int))) δ
omit [Tb] in
@[simp ↓] theorem wCut_ap (i : Nat) (δ : DS) (R : Opd → DS → Prop) : wCut i δ R = (∃ a ns, δ[i]? = some (.scr a ns) ∧ R (.d (.list ((ns.take 63).map PyData.int))) δ) := rfl
theorem cutV_take (xs : List V) (n : Nat) : cutV xs none (some (n : Int)) = xs.take n := by
  unfold cutV
  rw [HT.sIx_none, HT.sIx_nat]
  simp only [List.drop_zero, Nat.sub_zero]
  by_cases h : n ≤ xs.length
  · rw [Nat.min_eq_left h]
  · rw [Nat.min_eq_right (by omega), List.take_of_length_le (by omega), List.take_of_length_le (by omega)]
theorem je_cut {X : Cx} {i : Nat} {x : Str} {px p1 p2 pos : Pos} {k1} (h : PE X (.Name x px) (tVar i)) : JE X (.Subscript (.Name x px) (.Slice none (some (.Constant (.int 63) k1 p1)) none p2) pos) (wCut i) :=
  pe_le (pe_slice sl_list h po_none (po_some pe_int)) fun pins s σ H Q I ⟨B, G, δ, R, rel, ⟨a, ns, hδ, hw⟩, k⟩ => by
    obtain ⟨o, hσ, rfl, hq⟩ := rel.at hδ
    refine ⟨.ref a, hσ, 63, rfl, a, ns.map V.int, rfl, rel.sg.seq hq, fun p np => ?_⟩
    obtain ⟨rel3, s3⟩ := rel.laid (o := .lst (cutV (ns.map V.int) none (some 63))) np
    refine k _ _ _ _ _ hw s3 rel3 (Dn.lst upd_same ?_)
    rw [show (63 : Int) = ((63 : Nat) : Int) from rfl, cutV_take, ← List.map_take]
    exact DnL.ints _
def wDk1 : DTS := wSet 1 (mL (wComp (iSeq (wCut 0)) (gN 2) tT (wFn pAbs (wCons (wVar 2) wNil)) [2]))
def wDk2 : DMs := msCons (mL (wComp (iSeq (wVar 1)) (gN 2) (wB (wOp pGe (wVar 2) (wOp pPow (wC (.int 10)) (wC (.int 18))))) (wVar 2) [2]))
  (msCons (mL (wOpL pAddL (wVar 1) (wOfL (wLst (wCons (wOp pAdd (wC (.int 11228)) (wFn pLen (wCons (wVar 1) wNil))) wNil))))) (msCons (mE (wC (.int 0))) msNil))
theorem comp_abs {δ : DS} {R : List PyData → DS → Prop} {d0 d1 : Cell} (hd : δ = [d0, d1, .em]) (k : ∀ ms : List Int, ms.length ≤ 63 → R (ms.map PyData.int) δ) (ns : List Int) (hn : ns.length ≤ 63) :
    compIt (gN 2) tT (wFn pAbs (wCons (wVar 2) wNil)) [2] (ns.map PyData.int) [] δ R := by
  refine com_inv (u := .mk) (fun xs acc δ' => δ' = δ ∧ ∃ ns ms : List Int, xs = ns.map PyData.int ∧ acc = ms.map PyData.int ∧ ms.length + ns.length ≤ 63) ⟨rfl, ns, [], rfl, rfl, by simpa using hn⟩ ?_ ?_
  · rintro acc δ' ⟨rfl, ns, ms, h1, rfl, h3⟩
    exact k ms (by omega)
  · rintro x xs acc δ' ⟨rfl, ns, ms, h1, rfl, h3⟩ K ih
    cases ns with
    | nil => cases h1
    | cons n ns =>
      simp only [List.map_cons, List.cons.injEq] at h1
      obtain ⟨rfl, rfl⟩ := h1
      subst hd
      simp
      exact ih _ _ ⟨rfl, ns, ms ++ [if n < 0 then -n else n], rfl, by simp, by simp at h3 ⊢; omega⟩
theorem comp_ge {δ : DS} {R : List PyData → DS → Prop} {d0 d1 : Cell} (hd : δ = [d0, d1, .em]) (k : ∀ ms : List Int, (∀ x ∈ ms, 0 ≤ x) → R (ms.map PyData.int) δ) (ns : List Int) :
    compIt (gN 2) (wB (wOp pGe (wVar 2) (wOp pPow (wC (.int 10)) (wC (.int 18))))) (wVar 2) [2] (ns.map PyData.int) [] δ R := by
  refine com_inv (u := .mk) (fun xs acc δ' => δ' = δ ∧ ∃ ns ms : List Int, xs = ns.map PyData.int ∧ acc = ms.map PyData.int ∧ ∀ x ∈ ms, 0 ≤ x) ⟨rfl, ns, [], rfl, rfl, by simp⟩ ?_ ?_
  · rintro acc δ' ⟨rfl, ns, ms, h1, rfl, h3⟩
    exact k ms h3
  · rintro x xs acc δ' ⟨rfl, ns, ms, h1, rfl, h3⟩ K ih
    cases ns with
    | nil => cases h1
    | cons n ns =>
      simp only [List.map_cons, List.cons.injEq] at h1
      obtain ⟨rfl, rfl⟩ := h1
      subst hd
      simp [CPow]
      split
      · exact ih _ _ ⟨rfl, ns, ms ++ [n], rfl, by simp, fun x hx => by
          rcases List.mem_append.mp hx with q | q
          · exact h3 x q
          · rw [List.mem_singleton.mp q]; omega⟩
      · exact ih _ _ ⟨rfl, ns, ms, rfl, rfl, h3⟩
theorem ok_deck {P : Program} {w : World} {K : PySem.W.Frag} {mg : Str → Option Value} {base : Heap} {x qual : Str} {st : Stmt} {f : Addr} {fd : FuncData} {N ps : List Str} {k : Nat} {st1 : Stmt} {es : List Expr} {p1 p2 : Pos} (F : Fun K x qual st f fd) (S : FnScope N ps (defScope st)) (hN : N.length = 3) (hp : ps.length = 1)
    (hb : defBody st = [st1, .Return (some (.List es p1)) p2])
    (h1 : ∀ (cdv : Value) (A : Around) (outer : List Env) (s : Shared) (H : Hp) (E : XK), RoomG k (A.deeper (envOfC qual (defScope st) s.heap.objs.size f cdv)) → JS (cxOf CX0 P w K mg base N qual (defScope st) f cdv A outer s H E).nox st1 wDk1)
    (h2 : ∀ (cdv : Value) (A : Around) (outer : List Env) (s : Shared) (H : Hp) (E : XK), RoomG k (A.deeper (envOfC qual (defScope st) s.heap.objs.size f cdv)) → JMs (cxOf CX0 P w K mg base N qual (defScope st) f cdv A outer s H E).nox es wDk2) : FnG P w K mg base CX0 (k + 1) f fd ps (liftM K spDeck) := by
  obtain ⟨oc, od, kV, doc, pm, an, cdv, ct, osl, rfl, lk', hcd⟩ := F.ex
  refine fnG_of lk' hcd S (fun vs H Q E ⟨B, G, cs, R, rel, ⟨a, ns, e, _⟩, _⟩ => by have := rel.len; subst e; simp at this; omega) fun A outer s H vs Q E hr ⟨B, G, cs, R, rel, ⟨a, ns, e, hR⟩, kk⟩ => ?_
  subst e
  rw [hb]
  refine ⟨_, (pss_cons (h1 cdv A outer s H E hr) (pss_one (ps_ret (pe_lst (h2 cdv A outer s H E hr))))).nox, ?_⟩
  have e0 : start0 N.length [Cell.scr a ns] = [.scr a ns, .em, .em] := by rw [hN]; rfl
  refine ⟨B, G, [.scr a ns, .em, .em], { nx := fun δ => ∃ q xs, δ = [.scr a ns, .ol q (xs.map PyData.int), .em] ∧ (xs : List Int).length ≤ 63, rt := fun _ _ => False }, e0 ▸ rel_start rel, ?_, ?_⟩
  · unfold wDk1
    simp
    refine ⟨a, ns, ⟨rfl, rfl⟩, ?_⟩
    rw [← List.map_take]
    exact comp_abs rfl (fun ms hm q => ⟨q, ms, by simp [hm]⟩) _ (by rw [List.length_take]; omega)
  · refine ⟨?_, fun _ _ _ _ _ _ h => h.elim, fun _ _ _ _ h => h.elim, fun _ _ _ _ h => h.elim⟩
    rintro σ1 H1 G1 δ1 ⟨q, xs, rfl, hx⟩ s1 rel1
    refine ⟨B, G1, _, fun cs δ => ∃ (q1 q2 : Addr) (ms ys : List Int) (d1 : Cell), cs = [.ol q1 (ms.map PyData.int), .ol q2 (ys.map PyData.int), .d (.int 0)] ∧ δ = [.scr a ns, d1, .em] ∧ (∀ x ∈ ms, (0 : Int) ≤ x) ∧ ys ≠ [], rel1, ?_, ?_⟩
    · unfold wDk2
      simp
      refine comp_ge rfl (fun ms hm q1 => ?_) _
      simp
      refine ⟨by omega, fun q2 => ⟨q1, q2, ms, xs ++ [11228 + (xs.length : Int)], ⟨⟨rfl, rfl⟩, rfl, by simp⟩, hm, by simp⟩⟩
    · rintro vs2 H2 G2 cs δ2 ⟨b, c, ms, ys, d1, rfl, rfl, hm, hy⟩ s2 rel2 hB2 ok2
      cases ok2 with
      | cons o1 n1 t1 =>
        cases t1 with
        | cons o2 n2 t2 =>
          cases t2 with
          | cons o3 n3 t3 =>
            cases t3
            obtain ⟨e1, w1, hb, t1⟩ := o1
            obtain ⟨e2, w2, hc, t2⟩ := o2
            obtain ⟨v3, e3, t3⟩ := o3
            cases e1
            cases e2
            cases e3
            obtain rfl := t1.toInts
            obtain rfl := t2.toInts
            obtain rfl := dn_int t3
            refine ⟨by show 3 ≤ sizeLine; rw [sizeLine_eq]; omega, fun p np => ?_⟩
            have bc : b ≠ c := fun e => n1 b (by simp [Cell.fp]) (by simp [fps, Cell.fp, e])
            have pb : p ≠ b := fun e => by rw [e, hb] at np; cases np
            have pc : p ≠ c := fun e => by rw [e, hc] at np; cases np
            have rel3 := rel_end rel (rel2.growB (o := .lst [.ref b, .ref c, .int 0]) np |>.less (B0 := B) fun a => ?_) (s1.trans s2) (show sameIo [Cell.scr a ns] _ from trivial)
            · have eb : (fps [Cell.ol b (ms.map PyData.int), Cell.ol c (ys.map PyData.int), Cell.d (.int 0)]) = [b, c] := rfl
              rw [eb] at rel2 hB2
              have hB : ∀ a ∈ [p, b, c], B a = none := fun a m => by
                rcases List.mem_cons.mp m with e | m
                · rw [e]
                  have z := rel2.freeB np
                  unfold bov at z
                  rw [if_neg (by simp [pb, pc])] at z; exact z
                · exact hB2 a m
              refine kk _ _ G2 (.dk p b c) _ (hR p b c) (s1.trans s2) (rel3.more (fun a m => ?_) ?_ fun a m => cell_te (K := K) (G := G2) (c := .dk p b c) (o := some (.ref p)) ⟨rfl, pb, pc, bc, 0, ms, ys, upd_same, by rw [upd_ne pb.symm]; exact hb, by rw [upd_ne pc.symm]; exact hc, hy, hm⟩ m) hB ⟨rfl, pb, pc, bc, 0, ms, ys, upd_same, by rw [upd_ne pb.symm]; exact hb, by rw [upd_ne pc.symm]; exact hc, hy, hm⟩
              · rcases List.mem_cons.mp m with e | m
                · rw [e]; exact rel2.freeG np
                · rcases rel2.dj a with z | z
                  · exact z
                  · unfold bov at z
                    rw [if_pos m] at z
                    have m' : a = b ∨ a = c := by simpa using m
                    rcases m' with rfl | rfl
                    · rw [hb] at z; cases z
                    · rw [hc] at z; cases z
              · intro i c' a' e m
                have : c' = .scr a ns := by
                  cases i with
                  | zero => simp [outC] at e; exact e.symm
                  | succ i => simp [outC] at e
                rw [this] at m; cases m
            · by_cases h : a = p
              · refine .inr ?_
                rw [h]
                have z := rel2.freeB np
                unfold bov at z
                split at z
                · rename_i hm2
                  rw [z] at np
                  have : H2 p = none := z
                  rcases (show p = b ∨ p = c by simpa [fps, Cell.fp] using hm2) with e | e
                  · exact absurd e pb
                  · exact absurd e pc
                · exact z
              · rw [upd_ne h]
                unfold bov
                split
                · rename_i hm2
                  exact .inr (hB2 a hm2)
                · exact .inl rfl
end DL
set_option Elab.async false
set_option linter.all false
set_option maxRecDepth 100000
set_option maxHeartbeats 4000000
namespace DL
open PySem PySem.Spec PyProof.Rows L2
variable [Tb]

section
variable {K : PySem.W.Frag} {B G H : Hp} {δ : DS} {σ : L2.St}
theorem Rel.put {i : Nat} {c c' : Cell} {p : Addr} {o : HO} {ov : Option V} (R : Rel K B G δ σ H) (h : δ[i]? = some c) (hσ : σ[i]? = some ov) (hp : p ∈ c.fp) (hf : c'.fp = c.fp) (ok : CellOk K G (upd H p o) c' ov) : Rel K B G (δ.set i c') σ (upd H p o) := by
  obtain ⟨ga, ba⟩ := R.fr i _ p h hp
  have hi : i < δ.length := (List.getElem?_eq_some_iff.mp h).1
  have get : ∀ {j : Nat} {x : Cell}, (δ.set i c')[j]? = some x → (j = i ∧ x = c') ∨ (j ≠ i ∧ δ[j]? = some x) := fun {j x} e => by
    by_cases hj : j = i
    · subst hj
      rw [List.getElem?_set_self hi] at e; cases e; exact .inl ⟨rfl, rfl⟩
    · rw [List.getElem?_set_ne (Ne.symm hj)] at e; exact .inr ⟨hj, e⟩
  refine ⟨by simp [R.len], fun b x q => ?_, fun b x q => ?_, R.dj, fun j x w e1 e2 => ?_, fun j k x y z e1 e2 m1 m2 => ?_, fun j x z e1 m => ?_, ⟨tabs_upd R.tt.t (cell_te (R.ok i c _ h hσ) hp), R.tt.n⟩⟩
  · rw [upd_ne (fun z => by rw [z, ga] at q; cases q)]; exact R.sg _ _ q
  · rw [upd_ne (fun z => by rw [z, ba] at q; cases q)]; exact R.sb _ _ q
  · rcases get e1 with ⟨rfl, rfl⟩ | ⟨hj, e1⟩
    · rw [hσ] at e2; cases e2; exact ok
    · refine (R.ok j x w e1 e2).stay (Same.refl _) fun b hb => upd_ne fun q => ?_
      rw [q] at hb
      exact hj (R.ap j i x _ p e1 h hb hp)
  · rcases get e1 with h1 | h1
    · obtain ⟨h1, e1'⟩ := h1
      rw [e1'] at m1
      rcases get e2 with ⟨h2, e3⟩ | ⟨h2, e3⟩
      · rw [h1, h2]
      · exact h1.trans (R.ap i k _ y z h e3 (by rw [← hf]; exact m1) m2)
    · rcases get e2 with ⟨h2, e3⟩ | ⟨h2, e3⟩
      · rw [e3] at m2
        exact (R.ap j i x _ z h1.2 h m1 (by rw [← hf]; exact m2)).trans h2.symm
      · exact R.ap j k x y z h1.2 e3 m1 m2
  · rcases get e1 with ⟨_, rfl⟩ | ⟨hj, e1⟩
    · exact R.fr i _ z h (by rw [← hf]; exact m)
    · exact R.fr j x z e1 m
theorem Rel.swap {i : Nat} {c c' : Cell} {ov : Option V} (R : Rel K B G δ σ H) (h : δ[i]? = some c) (hσ : σ[i]? = some ov) (hf : c'.fp = c.fp) (ok : CellOk K G H c' ov) : Rel K B G (δ.set i c') σ H :=
  R.recell hσ ok fun a m => ⟨R.fr i c a h (by rw [← hf]; exact m), fun j x hj e m2 => hj (R.ap j i x c a e h m2 (by rw [← hf]; exact m))⟩
end

def wK2 (i : Nat) : DE := fun δ R => ∃ a b c xs n ys, δ[i]? = some (.dx a b c xs n ys) ∧ R (.d (.int n)) δ
def wK00 (i : Nat) : DE := fun δ R => ∃ a b c xs n ys x, δ[i]? = some (.dx a b c xs n ys) ∧ xs.head? = some x ∧ R (.d (.int x)) δ
def wKne (i : Nat) : DT := fun δ R => ∃ a b c xs n ys, δ[i]? = some (.dx a b c xs n ys) ∧ R (!xs.isEmpty) δ
def wK1 (i : Nat) (w : DE) : DE := fun δ R => ∃ a b c xs n ys, δ[i]? = some (.dx a b c xs n ys) ∧ w δ fun o δ1 => use o δ1 fun d => ∃ j z, d = .int j ∧ δ1[i]? = some (.dx a b c xs n ys) ∧ atI ys j = some z ∧ R (.d (.int z)) δ1
def wKlen (i : Nat) : DE := fun δ R => ∃ a b c xs n ys, δ[i]? = some (.dx a b c xs n ys) ∧ R (.d (.int (ys.length : Nat))) δ
def wPut00 (i : Nat) (w : DE) : DTS := fun E δ => w δ fun o δ1 => use o δ1 fun d => ∃ v a b c x xs n ys, d = .int v ∧ δ1[i]? = some (.dx a b c (x :: xs) n ys) ∧ E.nx (δ1.set i (.dx a b c (v :: xs) n ys))
def wPop0 (i : Nat) : DTS := fun E δ => ∃ a b c x xs n ys, δ[i]? = some (.dx a b c (x :: xs) n ys) ∧ E.nx (δ.set i (.dx a b c xs n ys))
def wPut2 (i : Nat) (w : DE) : DTS := fun E δ => w δ fun o δ1 => use o δ1 fun d => ∃ v a b c xs n ys, d = .int v ∧ δ1[i]? = some (.dx a b c xs n ys) ∧ E.nx (δ1.set i (.dx a b c xs v ys))
def asX (c : Option Cell) (k : Addr → Addr → Addr → List Int → Int → List Int → Prop) : Prop := match c with
  | some (.dx a b c xs n ys) => k a b c xs n ys
  | _ => False
omit [Tb] in
@[simp ↓] theorem asX_x (a b c : Addr) (xs : List Int) (n : Int) (ys : List Int) (k : Addr → Addr → Addr → List Int → Int → List Int → Prop) : asX (some (.dx a b c xs n ys)) k = k a b c xs n ys := rfl
theorem ex_x (c : Option Cell) (k : Addr → Addr → Addr → List Int → Int → List Int → Prop) : (∃ p q r xs n ys, c = some (.dx p q r xs n ys) ∧ k p q r xs n ys) = asX c k := by
  cases c with
  | none => simp [asX]
  | some c =>
    cases c with
    | dx p q r xs n ys =>
      refine propext ⟨fun ⟨_, _, _, _, _, _, e, h⟩ => ?_, fun h => ⟨_, _, _, _, _, _, rfl, h⟩⟩
      cases e; exact h
    | _ => simp [asX]
def head1 (xs : List Int) (k : Int → List Int → Prop) : Prop := match xs with
  | x :: r => k x r
  | [] => False
omit [Tb] in
@[simp] theorem head1_c (x : Int) (xs : List Int) (k : Int → List Int → Prop) : head1 (x :: xs) k = k x xs := rfl
omit [Tb] in
@[simp ↓] theorem wK2_ap (i : Nat) (δ : DS) (R : Opd → DS → Prop) : wK2 i δ R = asX δ[i]? fun a b c xs n ys => R (.d (.int n)) δ := by
  rw [← ex_x]; rfl
omit [Tb] in
@[simp ↓] theorem wK00_ap (i : Nat) (δ : DS) (R : Opd → DS → Prop) : wK00 i δ R = asX δ[i]? fun a b c xs n ys => head1 xs fun x _ => R (.d (.int x)) δ := by
  rw [← ex_x]
  refine propext ⟨fun ⟨a, b, c, xs, n, ys, x, h, h2, q⟩ => ⟨a, b, c, xs, n, ys, h, ?_⟩, fun ⟨a, b, c, xs, n, ys, h, q⟩ => ?_⟩
  · cases xs with
    | nil => cases h2
    | cons y r => cases h2; exact q
  · cases xs with
    | nil => exact q.elim
    | cons y r => exact ⟨a, b, c, _, n, ys, y, h, rfl, q⟩
omit [Tb] in
@[simp ↓] theorem wKne_ap (i : Nat) (δ : DS) (R : Bool → DS → Prop) : wKne i δ R = asX δ[i]? fun a b c xs n ys => R (!xs.isEmpty) δ := by
  rw [← ex_x]; rfl
omit [Tb] in
@[simp ↓] theorem wK1_ap (i : Nat) (w : DE) (δ : DS) (R : Opd → DS → Prop) : wK1 i w δ R = asX δ[i]? fun a b c xs n ys => w δ fun o δ1 => use o δ1 fun d => asI d (fun j => δ1[i]? = some (.dx a b c xs n ys) ∧ onS (atI ys j) (fun z => R (.d (.int z)) δ1) .mk) .mk := by
  rw [← ex_x]; simp only [← ex_int, ← ex_some, ← exists_and_left]; rfl
omit [Tb] in
@[simp ↓] theorem wKlen_ap (i : Nat) (δ : DS) (R : Opd → DS → Prop) : wKlen i δ R = asX δ[i]? fun a b c xs n ys => R (.d (.int (ys.length : Nat))) δ := by
  rw [← ex_x]; rfl
omit [Tb] in
@[simp ↓] theorem wPut00_ap (i : Nat) (w : DE) (E : DEnds) (δ : DS) : wPut00 i w E δ = (w δ fun o δ1 => use o δ1 fun d => asI d (fun v => asX δ1[i]? fun a b c xs n ys => head1 xs fun _ r => E.nx (δ1.set i (.dx a b c (v :: r) n ys))) .mk) := by
  unfold wPut00
  simp only [← ex_x, ← ex_int]
  congr 1; funext o δ1; congr 1; funext d
  refine propext ⟨fun ⟨v, a, b, c, x, xs, n, ys, h0, h, q⟩ => ⟨v, h0, a, b, c, _, n, ys, h, q⟩, fun ⟨v, h0, a, b, c, xs, n, ys, h, q⟩ => ?_⟩
  cases xs with
  | nil => exact q.elim
  | cons y r => exact ⟨v, a, b, c, y, r, n, ys, h0, h, q⟩
omit [Tb] in
@[simp ↓] theorem wPop0_ap (i : Nat) (E : DEnds) (δ : DS) : wPop0 i E δ = asX δ[i]? fun a b c xs n ys => head1 xs fun _ r => E.nx (δ.set i (.dx a b c r n ys)) := by
  rw [← ex_x]
  refine propext ⟨fun ⟨a, b, c, x, xs, n, ys, h, q⟩ => ⟨a, b, c, _, n, ys, h, q⟩, fun ⟨a, b, c, xs, n, ys, h, q⟩ => ?_⟩
  cases xs with
  | nil => exact q.elim
  | cons y r => exact ⟨a, b, c, y, r, n, ys, h, q⟩
omit [Tb] in
@[simp ↓] theorem wPut2_ap (i : Nat) (w : DE) (E : DEnds) (δ : DS) : wPut2 i w E δ = (w δ fun o δ1 => use o δ1 fun d => asI d (fun v => asX δ1[i]? fun a b c xs n ys => E.nx (δ1.set i (.dx a b c xs v ys))) .mk) := by
  unfold wPut2
  simp only [← ex_x, ← ex_int]
  congr 1; funext o δ1; congr 1; funext d
  exact propext ⟨fun ⟨v, a, b, c, xs, n, ys, h0, h, q⟩ => ⟨v, h0, a, b, c, xs, n, ys, h, q⟩, fun ⟨v, h0, a, b, c, xs, n, ys, h, q⟩ => ⟨v, a, b, c, xs, n, ys, h0, h, q⟩⟩
section
variable {X : Cx} {i : Nat} {x : Str} {px pos p1 p2 p3 p4 p5 : Pos} {k1 k2 : Nat}
theorem atI_map {α β : Type} (f : α → β) (xs : List α) (j : Int) : atI (xs.map f) j = (atI xs j).map f := by
  unfold atI
  rw [List.length_map]
  cases ixN xs.length j with
  | none => rfl
  | some k => simp
theorem je_k2 (h : PE X (.Name x px) (tVar i)) : JE X (.Subscript (.Name x px) (.Constant (.int 2) k1 p1) pos) (wK2 i) :=
  pe_le (pe_ix ix_list h pe_int (fun _ _ => rfl)) fun pins s σ H Q I ⟨B, G, δ, R, rel, ⟨a, b, c, xs, n, ys, hδ, hw⟩, k⟩ => by
    obtain ⟨o, hσ, rfl, h1, h2, h3, e1, e2, e3⟩ := rel.at hδ
    exact ⟨.ref a, hσ, a, _, 2, .int n, rfl, rfl, SqL.of e1, rfl, k _ H G _ δ hw (Same.refl _) rel (Dn.int _)⟩
theorem je_k00 (h : PE X (.Name x px) (tVar i)) : JE X (.Subscript (.Subscript (.Name x px) (.Constant (.int 0) k1 p1) p2) (.Constant (.int 0) k2 p3) pos) (wK00 i) :=
  pe_le (pe_ix ix_list (pe_ix ix_list h pe_int (fun _ _ => rfl)) pe_int (fun _ _ => rfl)) fun pins s σ H Q I ⟨B, G, δ, R, rel, ⟨a, b, c, xs, n, ys, x, hδ, hx, hw⟩, k⟩ => by
    obtain ⟨o, hσ, rfl, h1, h2, h3, e1, e2, e3⟩ := rel.at hδ
    cases xs with
    | nil => cases hx
    | cons y xs =>
      cases hx
      exact ⟨.ref a, hσ, a, _, 0, .ref b, rfl, rfl, SqL.of e1, rfl, b, _, 0, .int x, rfl, rfl, SqL.of e2, by simp [atI, ixN], k _ H G _ δ hw (Same.refl _) rel (Dn.int _)⟩
theorem je_k1 {e : Expr} {w : DE} (h : PE X (.Name x px) (tVar i)) (he : JE X e w) (hs : PlainIx e) : JE X (.Subscript (.Subscript (.Name x px) (.Constant (.int 1) k1 p1) p2) e pos) (wK1 i w) :=
  pe_le (pe_ix ix_list (pe_ix ix_list h pe_int (fun _ _ => rfl)) he hs) fun pins s σ H Q I ⟨B, G, δ, R, rel, ⟨a, b, c, xs, n, ys, hδ, hw⟩, k⟩ => by
    obtain ⟨o, hσ, rfl, h1, h2, h3, e1, e2, e3⟩ := rel.at hδ
    refine ⟨.ref a, hσ, a, _, 1, .ref c, rfl, rfl, SqL.of e1, rfl, B, G, δ, _, rel, hw, fun v H1 G1 o δ1 r1 s1 rel1 ok1 => ?_⟩
    obtain ⟨d, ⟨j, z, rfl, hδ1, hz, q⟩, bd⟩ := use_ok rel1 ok1 r1
    obtain ⟨o', hσ', e', h1', h2', h3', e1', e2', e3'⟩ := rel1.at hδ1
    exact ⟨c, _, j, .int z, rfl, bor_int bd, SqL.of e3', by rw [atI_map, hz]; rfl, k _ H1 G1 _ δ1 q s1 rel1 (Dn.int _)⟩
theorem je_klen {xl : Str} {pl : Pos} (hg : Gl X xl) (hm : X.mg xl = none) (hv : bootBuiltins xl = some (.builtin "len")) (h : PE X (.Name x px) (tVar i)) (hn : xl ≠ "__name__" := by decide) (hdb : (xl == ("__debug__" : Str)) = false := by decide)
    (he : starEach [.Subscript (.Name x px) (.Constant (.int 1) k1 p1) p2] X.env = (false, eval (.Subscript (.Name x px) (.Constant (.int 1) k1 p1) p2) X.env) :: starEach [] X.env := by rfl) :
    JE X (.Call (.Name xl pl) [.Subscript (.Name x px) (.Constant (.int 1) k1 p1) p2] [] pos) (wKlen i) :=
  pe_le (pe_callB call_len hg hm hv (pa_cons (pe_ix ix_list h pe_int (fun _ _ => rfl)) pa_nil he) hn hdb he rfl) fun pins s σ H Q I ⟨B, G, δ, R, rel, ⟨a, b, c, xs, n, ys, hδ, hw⟩, k⟩ => by
    obtain ⟨o, hσ, rfl, h1, h2, h3, e1, e2, e3⟩ := rel.at hδ
    exact ⟨.ref a, hσ, a, _, 1, .ref c, rfl, rfl, SqL.of e1, rfl, _, _, rfl, .inl ⟨_, SqL.of e3, by simp⟩, k _ H G _ δ hw (Same.refl _) rel (Dn.int _)⟩
theorem dp_ints {K : PySem.W.Frag} {H : Hp} {a : Addr} {xs : List Int} (h : H a = some (.lst (xs.map V.int))) : Dp K H (.ref a) (.list (xs.map PyData.int)) :=
  .lst (SqL.of h) (by
    induction xs with
    | nil => exact .nil
    | cons x xs ih => exact .cons (.int _) (by
        clear h
        clear ih
        induction xs with
        | nil => exact .nil
        | cons x xs ih => exact .cons (.int _) ih))
theorem canLay_ints : ∀ xs : List Int, PyData.canLayAll0 (xs.map PyData.int) = true
  | [] => by simp [PyData.canLayAll0]
  | x :: xs => by simp [PyData.canLayAll0, PyData.canLay0, canLay_ints xs]
theorem depth_ints : ∀ xs : List Int, PyData.depthAll (xs.map PyData.int) = 0
  | [] => by simp [PyData.depthAll]
  | x :: xs => by simp [PyData.depthAll, PyData.depth, depth_ints xs]
theorem shaped_ints (xs : List Int) : SeqAt.shaped (.list (xs.map PyData.int)) = true := by
  simp [SeqAt.shaped, PyData.canLay0, PyData.depth, canLay_ints, depth_ints]
theorem eqv_nil (xs : List Int) : PyData.eqv (.list (xs.map PyData.int)) (.list []) = xs.isEmpty := by
  cases xs <;> simp [PyData.eqv, PyData.eqvAll]
theorem jt_kne (hu : X.A.units + 64 < cLine) (h : PE X (.Name x px) (tVar i)) (hm : behindInMarks .NotEq (.List [] p3) = false := by rfl) : JT X (.Compare (.Subscript (.Name x px) (.Constant (.int 0) k1 p1) p2) [.NotEq] [.List [] p3] pos) (wKne i) :=
  pt_le (pt_cmpR (op_neD hu) (pe_ix ix_list h pe_int (fun _ _ => rfl)) (pe_lst pa_nil) hm) fun pins s σ H Q I ⟨B, G, δ, R, rel, ⟨a, b, c, xs, n, ys, hδ, hw⟩, k⟩ => by
    obtain ⟨o, hσ, rfl, h1, h2, h3, e1, e2, e3⟩ := rel.at hδ
    refine ⟨.ref a, hσ, a, _, 0, .ref b, rfl, rfl, SqL.of e1, rfl, Nat.zero_le _, fun p np => ?_⟩
    have hb : (upd H p (.lst [])) b = some (.lst (xs.map V.int)) := by rw [upd_ne (ne_of_none e2 np)]; exact e2
    refine ⟨_, .list [], dp_ints hb, .lst (SqL.of upd_same) .nil, shaped_ints xs, by decide, _, rfl, ?_⟩
    rw [eqv_nil]
    exact k _ _ G δ hw (Same.refl _) (rel.grow np)
theorem js_put00 {e : Expr} {w : DE} {pt : Pos} (h : PE X (.Name x px) (tVar i)) (he : JE X e w) (hs : swapsWithSole [.Subscript (.Subscript (.Name x px) (.Constant (.int 0) k1 p1) p2) (.Constant (.int 0) k2 p3) pt] e pos.line X.env = pure false := by rfl) (hw : swappedStores [.Subscript (.Subscript (.Name x px) (.Constant (.int 0) k1 p1) p2) (.Constant (.int 0) k2 p3) pt] e X.env = pure none := by rfl) :
    JS X (.Assign [.Subscript (.Subscript (.Name x px) (.Constant (.int 0) k1 p1) p2) (.Constant (.int 0) k2 p3) pt] e pos) (wPut00 i w) :=
  ps_le (ps_asg he (pg_sub (pe_ix ix_list h pe_int (fun _ _ => rfl)) pe_int set_list) hs hw) fun pins s σ H D I ⟨B, G, δ, E, rel, hw, k⟩ => ⟨B, G, δ, _, rel, hw, fun v H1 G1 o δ1 r1 s1 rel1 ok1 => by
    obtain ⟨d, ⟨j, a, b, c, x, xs, n, ys, rfl, hδ1, q⟩, bd⟩ := use_ok rel1 ok1 r1
    obtain ⟨o', hσ, rfl, h1, h2, h3, e1, e2, e3⟩ := rel1.at hδ1
    obtain rfl := bor_int bd
    refine ⟨.ref a, hσ, a, _, 0, .ref b, rfl, rfl, SqL.of e1, rfl, b, _, 0, 0, rfl, rfl, e2, by simp [ixN], ?_⟩
    exact k.nx _ _ G1 _ q s1 (rel1.put hδ1 hσ (by simp [Cell.fp]) rfl ⟨rfl, h1, h2, h3, by rw [upd_ne h1]; exact e1, by rw [upd_same]; rfl, by rw [upd_ne h3.symm]; exact e3⟩)⟩
theorem js_put2 {e : Expr} {w : DE} {pt : Pos} (h : PE X (.Name x px) (tVar i)) (he : JE X e w) (hs : swapsWithSole [.Subscript (.Name x px) (.Constant (.int 2) k1 p1) pt] e pos.line X.env = pure false := by rfl) (hw : swappedStores [.Subscript (.Name x px) (.Constant (.int 2) k1 p1) pt] e X.env = pure none := by rfl) :
    JS X (.Assign [.Subscript (.Name x px) (.Constant (.int 2) k1 p1) pt] e pos) (wPut2 i w) :=
  ps_le (ps_asg he (pg_sub h pe_int set_list) hs hw) fun pins s σ H D I ⟨B, G, δ, E, rel, hw, k⟩ => ⟨B, G, δ, _, rel, hw, fun v H1 G1 o δ1 r1 s1 rel1 ok1 => by
    obtain ⟨d, ⟨j, a, b, c, xs, n, ys, rfl, hδ1, q⟩, bd⟩ := use_ok rel1 ok1 r1
    obtain ⟨o', hσ, rfl, h1, h2, h3, e1, e2, e3⟩ := rel1.at hδ1
    obtain rfl := bor_int bd
    refine ⟨.ref a, hσ, a, _, 2, 2, rfl, rfl, e1, by simp [ixN], ?_⟩
    exact k.nx _ _ G1 _ q s1 (rel1.put hδ1 hσ (by simp [Cell.fp]) rfl ⟨rfl, h1, h2, h3, by rw [upd_same]; rfl, by rw [upd_ne h1.symm]; exact e2, by rw [upd_ne h2.symm]; exact e3⟩)⟩
theorem js_pop0 {apos cpos : Pos} (h : PE X (.Name x px) (tVar i)) (hs : swapsWith (.Call (.Attribute (.Subscript (.Name x px) (.Constant (.int 0) k1 p1) p2) "pop" apos) [.Constant (.int 0) k2 p3] [] cpos) none pos.line X.env = pure false := by rfl)
    (hb : PE X (.Call (.Attribute (.Subscript (.Name x px) (.Constant (.int 0) k1 p1) p2) "pop" apos) [.Constant (.int 0) k2 p3] [] cpos) (tBM X.K "list" rPopAt (tOp (rIxL X.K) (tVar i) (tC (.int 0))) (tCons (tC (.int 0)) tNil))) :
    JS X (.Expr (.Call (.Attribute (.Subscript (.Name x px) (.Constant (.int 0) k1 p1) p2) "pop" apos) [.Constant (.int 0) k2 p3] [] cpos) pos) (wPop0 i) :=
  ps_le (ps_expr hb hs) fun pins s σ H D I ⟨B, G, δ, E, rel, ⟨a, b, c, x, xs, n, ys, hδ, hw⟩, k⟩ => by
    obtain ⟨o', hσ, rfl, h1, h2, h3, e1, e2, e3⟩ := rel.at hδ
    refine ⟨.ref a, hσ, a, _, 0, .ref b, rfl, rfl, SqL.of e1, rfl, .inl ⟨rfl, _, SqL.of e2⟩, b, _, 0, 0, .int x, rfl, rfl, e2, by decide, by decide, by simp [seqIndex?], rfl, ?_⟩
    exact k.nx _ _ G _ hw (Same.refl _) (rel.put hδ hσ (by simp [Cell.fp]) rfl ⟨rfl, h1, h2, h3, by rw [upd_ne h1]; exact e1, by rw [upd_same]; rfl, by rw [upd_ne h3.symm]; exact e3⟩)
end
end DL
set_option Elab.async false
set_option linter.all false
set_option maxRecDepth 100000
set_option maxHeartbeats 4000000
namespace DL
open PySem PySem.Spec PyProof.Rows L2
variable [Tb]

theorem ixN_nn {n : Nat} {j : Int} (h0 : 0 ≤ j) (h1 : j < n) : ixN n j = some j.toNat := by
  unfold ixN
  simp [h0, h1]
theorem atI_nn {α : Type} {xs : List α} {j : Int} (h0 : 0 ≤ j) (h1 : j < xs.length) : atI xs j = xs[j.toNat]? := by
  unfold atI; rw [ixN_nn h0 h1]; rfl
theorem atI_ex {α : Type} {xs : List α} {j : Int} (h0 : 0 ≤ j) (h1 : j < xs.length) : ∃ z, z ∈ xs ∧ atI xs j = some z := by
  rw [atI_nn h0 h1]
  have h : j.toNat < xs.length := by omega
  exact ⟨xs[j.toNat], List.getElem_mem h, List.getElem?_eq_getElem h⟩
omit [Tb] in
@[simp] theorem atI_ofNat {α : Type} (xs : List α) (j : Nat) : atI xs (j : Int) = xs[j]? := by
  by_cases h : j < xs.length
  · rw [atI_nn (by omega) (by omega)]; simp
  · unfold atI
    have : ixN xs.length (j : Int) = none := by unfold ixN; simp; omega
    rw [this, List.getElem?_eq_none (by omega)]; rfl

omit [Tb] in
@[simp] theorem atI_0 {α : Type} (xs : List α) : atI xs 0 = xs[0]? := by
  have := atI_ofNat xs 0; simpa using this
omit [Tb] in
@[simp] theorem atI_1 {α : Type} (xs : List α) : atI xs 1 = xs[1]? := by
  have := atI_ofNat xs 1; simpa using this
omit [Tb] in
@[simp] theorem atI_lit {α : Type} (xs : List α) (n : Nat) : atI xs (no_index (OfNat.ofNat n : Int)) = xs[n]? := atI_ofNat xs n
omit [Tb] in
@[simp] theorem atI_m1 {α : Type} (xs : List α) : atI xs (-1) = xs.getLast? := by
  rw [List.getLast?_eq_getElem?]
  cases xs with
  | nil => rfl
  | cons x xs =>
    unfold atI ixN
    have h1 : ¬ (0 : Int) ≤ -1 := by omega
    have h2 : -(((x :: xs).length : Nat) : Int) ≤ -1 := by simp; omega
    rw [if_neg h1, if_pos h2]
    have : (-1 + (((x :: xs).length : Nat) : Int)).toNat = (x :: xs).length - 1 := by simp; omega
    rw [this]; rfl
def spDraw : DSp := fun cs R => ∃ a b c m, cs = [.dk a b c, .d (.int m)] ∧ 0 < m ∧ m.natAbs.log2 < 9000 ∧ ∀ r, 0 ≤ r → r < m → R (.int r) [.dk a b c, .d (.int m)]
def wDrawA : DTS := wSeq (wSet 2 (mE (wK00 0))) (wSeq (wPut00 0 (wOp pDiv (wVar 2) (wVar 1))) (wSeq (wIf (wB (wOp pEq (wK00 0) (wC (.int 0)))) (wPop0 0) wNext) (wRet (wOp pMod (wFn pInt (wCons (wVar 2) wNil)) (wVar 1)))))
def wDrawB : DTS := wSeq (wPut2 0 (wOp pAdd (wK2 0) (wC (.int 1)))) (wSeq (wSet 3 (mE (wK1 0 (wOp pMod (wFn pInt (wCons (wK2 0) wNil)) (wKlen 0)))))
  (wSeq (wSet 4 (mE (wOp pMod (wFn pInt (wCons (wOp pAdd (wOp pMod (wFn pInt (wCons (wVar 3) wNil)) (wC (.int 4294966477))) (wOp pMul (wC (.int 1640531513)) (wK2 0))) wNil)) (wC (.int 4294966477)))))
  (wSeq (wSet 4 (mE (wOp pMod (wFn pInt (wCons (wOp pAdd (wOp pMul (wVar 4) (wVar 4)) (wOp pMul (wC (.int 86028121)) (wK2 0))) wNil)) (wC (.int 4294966427)))))
  (wRet (wOp pMod (wOp pDiv (wOp pMod (wFn pInt (wCons (wOp pMul (wVar 4) (wVar 4)) wNil)) (wC (.int 4294966373))) (wC (.int 1024))) (wVar 1))))))
def wDraw : DTS := wSeq (wIf (wKne 0) wDrawA wNext) wDrawB
theorem cm_small {i j : Int} (h0 : 0 ≤ i) (h1 : i < 4294967296) : CMul i j ∨ CMulW i j := .inl (.inl ⟨by omega, by omega⟩)
theorem rd_draw {a b c : Addr} {m : Int} {xs ys : List Int} {n : Int} {E : DEnds} (hm : 0 < m) (hl : m.natAbs.log2 < 9000) (hy : ys ≠ []) (hx : ∀ x ∈ xs, 0 ≤ x)
    (k : ∀ r xs n d2 d3 d4, 0 ≤ r → r < m → (∀ x ∈ xs, (0 : Int) ≤ x) → E.rt (.int r) [.dx a b c xs n ys, .d (.int m), d2, d3, d4]) : wDraw E [.dx a b c xs n ys, .d (.int m), .em, .em, .em] := by
  unfold wDraw
  cases xs with
  | nil =>
    have hpos : 0 < ys.length := List.length_pos_iff.mpr hy
    obtain ⟨z, _, hz⟩ := atI_ex (xs := ys) (j := (n + 1) % (ys.length : Int)) (Int.emod_nonneg _ (by omega)) (Int.emod_lt_of_pos _ (by omega))
    simp [wDrawB]
    rw [hz]
    simp
    refine ⟨hpos, cm_small (by omega) (by omega), cm_small (by omega) (by omega), cm_small (by omega) (by omega), cm_small (by omega) (by omega), by decide, hm, k _ _ _ _ _ _ (Int.emod_nonneg _ (by omega)) (Int.emod_lt_of_pos _ hm) (by simp)⟩
  | cons x xs =>
    have h0 : 0 ≤ x := hx x (by simp)
    simp [wDrawA]
    refine ⟨⟨hm, hl⟩, ?_⟩
    split
    · exact ⟨hm, k _ _ _ _ _ _ (Int.emod_nonneg _ (by omega)) (Int.emod_lt_of_pos _ hm) fun y hy => hx y (by simp [hy])⟩
    · refine ⟨hm, k _ _ _ _ _ _ (Int.emod_nonneg _ (by omega)) (Int.emod_lt_of_pos _ hm) fun y hy => ?_⟩
      rcases List.mem_cons.mp hy with e | hy
      · rw [e]; exact Int.ediv_nonneg h0 (by omega)
      · exact hx y (by simp [hy])
theorem ok_draw {P : Program} {w : World} {K : PySem.W.Frag} {mg : Str → Option Value} {base : Heap} {x qual : Str} {st : Stmt} {f : Addr} {fd : FuncData} {N ps : List Str} {k : Nat} (F : Fun K x qual st f fd) (S : FnScope N ps (defScope st)) (hN : N.length = 5) (hp : ps.length = 2)
    (body : ∀ (cdv : Value) (A : Around) (outer : List Env) (s : Shared) (H : Hp) (E : XK), RoomG k (A.deeper (envOfC qual (defScope st) s.heap.objs.size f cdv)) → JSs (cxOf CX0 P w K mg base N qual (defScope st) f cdv A outer s H E).nox (defBody st) wDraw) : FnG P w K mg base CX0 (k + 1) f fd ps (liftSp K spDraw) := by
  obtain ⟨oc, od, kV, doc, pm, an, cdv, ct, osl, rfl, lk', hcd⟩ := F.ex
  refine fnG_of lk' hcd S (fun vs H Q E ⟨B, G, cs, R, rel, ⟨a, b, c, m, e, _⟩, _⟩ => by have := rel.len; subst e; simp at this; omega) fun A outer s H vs Q E hr ⟨B, G, cs, R, rel, ⟨a, b, c, m, e, hm, hl, hR⟩, kk⟩ => ?_
  subst e
  have e0 : start0 N.length [Cell.dk a b c, .d (.int m)] = [.dk a b c, .d (.int m), .em, .em, .em] := by rw [hN]; rfl
  have rel0 : Rel K B G [.dk a b c, .d (.int m), .em, .em, .em] (L2.start N vs) H := e0 ▸ rel_start rel
  obtain ⟨o, hσ, rfl, h1, h2, h3, n, xs, ys, e1, e2, e3, hy, hx⟩ := rel0.at (i := 0) rfl
  have rel1 := rel0.swap (i := 0) (c' := .dx a b c xs n ys) rfl hσ rfl ⟨rfl, h1, h2, h3, e1, e2, e3⟩
  refine ⟨_, (body cdv A outer s H E hr).nox, B, G, _, { nx := fun _ => False, rt := fun z δ => ∃ r xs n d2 d3 d4, z = .int r ∧ 0 ≤ r ∧ r < m ∧ (∀ x ∈ xs, (0 : Int) ≤ x) ∧ δ = [.dx a b c xs n ys, .d (.int m), d2, d3, d4] }, rel1, ?_, ?_⟩
  · exact rd_draw hm hl hy hx fun r xs n d2 d3 d4 q0 q1 q2 => ⟨r, xs, n, d2, d3, d4, rfl, q0, q1, q2, rfl⟩
  · refine ⟨fun _ _ _ _ h => h.elim, ?_, fun _ _ _ _ h => h.elim, fun _ _ _ _ h => h.elim⟩
    rintro v σ' H' G' z δ' ⟨r, xs', n', d2, d3, d4, rfl, q0, q1, q2, rfl⟩ sG rel' dn
    obtain ⟨o', hσ', rfl, h1', h2', h3', e1', e2', e3'⟩ := rel'.at (i := 0) rfl
    have rel2 := rel'.swap (i := 0) (c' := .dk a b c) rfl hσ' rfl ⟨rfl, h1', h2', h3', n', xs', ys, e1', e2', e3', hy, q2⟩
    exact kk v H' G' (.int r) _ (hR r q0 q1) sG (rel_end rel rel2 sG ⟨rfl, trivial⟩) dn
end DL
set_option Elab.async false
set_option linter.all false
set_option maxRecDepth 100000
set_option maxHeartbeats 4000000
namespace DL
open PySem PySem.Spec PyProof.Rows L2
variable [Tb]

theorem roomG_caller {k : Nat} (h : Room k callerA) : RoomG k callerA := ⟨h, rfl⟩
noncomputable def scrH (K : PySem.W.Frag) (a : Addr) (vs : List Value) (ns : List Int) : Hp := by
  classical
  exact fun b => if b = a ∧ K.lookup a = none then some (.frz { cls := .type "list", data := .seq vs.toArray } (.lst (ns.map V.int))) else none
section
variable {K : PySem.W.Frag} {a b : Addr} {vs : List Value} {ns : List Int}
theorem scrH_some {u : HO} (h : scrH K a vs ns b = some u) : b = a ∧ K.lookup a = none ∧ u = .frz { cls := .type "list", data := .seq vs.toArray } (.lst (ns.map V.int)) := by
  unfold scrH at h
  split at h
  · rename_i c; exact ⟨c.1, c.2, (Option.some.inj h).symm⟩
  · cases h
theorem scrH_at (h : K.lookup a = none) : scrH K a vs ns a = some (.frz { cls := .type "list", data := .seq vs.toArray } (.lst (ns.map V.int))) := by
  unfold scrH; exact if_pos ⟨rfl, h⟩
end
structure Began (K : PySem.W.Frag) (mg : Str → Option Value) (h : Heap) : Prop where
  code : K.In h
  own : h.Ns mainGlobals mg
  given : ∃ mb, h.Ns builtinsNs mb ∧ ∀ x : Str, x ≠ "__name__" → mb x = bootBuiltins x
  free : h.NoLimit
structure Script (h : Heap) (a : Addr) (vs : List Value) (ns : List Int) : Prop where
  at_a : h.get? a = some { cls := .type "list", data := .seq vs.toArray }
  nums : IntsAre vs ns
  fits : ns.length ≤ sizeLine
def spLaw : DSp := fun cs R => ∃ a ns, cs = [.scr a ns] ∧ ∀ cs', R (.bool true) cs'
noncomputable def noTb (H : Hp) : Hp := by
  classical
  exact fun a => if ∃ ps, H a = some (.tbl ps) then none else H a
theorem noTb_some {H : Hp} {a : Addr} {o : HO} (h : noTb H a = some o) : H a = some o ∧ ∀ ps, o ≠ .tbl ps := by
  unfold noTb at h
  split at h
  · cases h
  · rename_i n
    exact ⟨h, fun ps e => n ⟨ps, by rw [h, e]⟩⟩
theorem noTb_at {H : Hp} {a : Addr} {o : HO} (h : H a = some o) (n : ∀ ps, o ≠ .tbl ps) : noTb H a = some o := by
  unfold noTb
  rw [if_neg fun ⟨ps, e⟩ => n ps (by rw [h] at e; cases e; rfl)]
  exact h
theorem noTb_seq {K : PySem.W.Frag} {H : Hp} {a : Addr} {xs : List V} (h : SqL K H a xs) : SqL K (noTb H) a xs := by
  rcases h with (h | ⟨o, h⟩) | h
  · exact .inl (.inl (noTb_at h fun _ z => (nomatch z)))
  · exact .inl (.inr ⟨o, noTb_at h fun _ z => (nomatch z)⟩)
  · exact .inr h
theorem law_start {K : PySem.W.Frag} {H : Hp} {a : Addr} {ns : List Int} (h : SqL K H a (ns.map V.int)) (hT : LamX.Tabs Tb.T H := by intro p hp; cases hp) : liftSp K spLaw [.ref a] H (fun v _ => v = .bl true) fun _ _ _ => False := by
  refine ⟨fun _ => none, noTb H, [.scr a ns], fun x _ => x = .bool true, ?_, ⟨a, ns, rfl, fun _ => rfl⟩, ?_⟩
  · refine ⟨rfl, fun a o e => (noTb_some e).1, fun a o e => (by cases e), fun a => .inr rfl, fun i c o e1 e2 => ?_, fun i j c c' a e1 e2 m1 m2 => ?_, fun i c a e m => ?_, ⟨hT, ⟨fun a o e => (by cases e), fun a o e => (noTb_some e).2⟩⟩⟩
    · cases i with
      | zero => simp at e1 e2; subst e1 e2; exact ⟨rfl, noTb_seq h⟩
      | succ i => simp at e1
    · cases i with
      | zero => simp at e1; subst e1; cases m1
      | succ i => simp at e1
    · cases i with
      | zero => simp at e; subst e; cases m
      | succ i => simp at e
  · rintro v H' G' x cs' rfl _ _ dn
    exact dn_bool dn
end DL
set_option Elab.async false
set_option linter.all false
set_option maxRecDepth 100000
set_option maxHeartbeats 4000000
namespace DL
open PySem PySem.Spec PyProof.Rows L2
variable [Tb]

section
variable {X : Cx} {x : Str} {pos : Pos} {e : Expr} {es : List Expr}
theorem jpv (i : Nat) (hN : X.N[i]? = some x := by rfl) (hv : Vis X.env.scope x := by first | exact .inl rfl | exact .inr (.inl rfl) | exact .inr (.inr rfl)) (hd : (x == ("__debug__" : Str)) = false := by decide) (hcd : (x == ("__classdict__" : Str)) = false := by decide) : PE X (.Name x pos) (tVar i) := pe_var hN hv hd hcd
theorem jv (i : Nat) (hN : X.N[i]? = some x := by rfl) (hv : Vis X.env.scope x := by first | exact .inl rfl | exact .inr (.inl rfl) | exact .inr (.inr rfl)) (hd : (x == ("__debug__" : Str)) = false := by decide) (hcd : (x == ("__classdict__" : Str)) = false := by decide) : JE X (.Name x pos) (wVar i) := je_var (pe_var hN hv hd hcd)
theorem jgn (i : Nat) (nd : X.N.Nodup) (hN : X.N[i]? = some x := by rfl) (hx : Loc X.env.scope x := by first | exact .inl rfl | exact .inr rfl) (hf : X.fn x = true ∨ X.env.scope.names.lookup x = some .local := by first | exact .inl rfl | exact .inr rfl) : JG X (.Name x pos) [i] (gN i) := jg_name nd hN hx hf
theorem jset (i : Nat) {w : DM} {pos' : Pos} (nd : X.N.Nodup) (he : JM X e w) (hi : X.N[i]? = some x := by rfl) (hx : Loc X.env.scope x := by first | exact .inl rfl | exact .inr rfl) (hs : swapsWith e (some (.Name x pos')) pos.line X.env = pure false := by rfl) (hf : X.fn x = true ∨ X.env.scope.names.lookup x = some .local := by first | exact .inl rfl | exact .inr rfl) :
    JS X (.Assign [.Name x pos'] e pos) (wSet i w) := js_set nd hi hx he hs hf
theorem jpar {i j : Nat} {x y : Str} {a b : Expr} {w : DMs} {px py pt : Pos} {kt k2 pt2} (hc : X.calm = true) (hN : X.N.Nodup) (hi : X.N[i]? = some x) (hj : X.N[j]? = some y) (hij : i ≠ j) (ha : JMs X [a, b] w) (hx : X.env.scope.names.lookup x = some .local := by rfl) (hy : X.env.scope.names.lookup y = some .local := by rfl) 
    (hw : swappedStores [.Tuple [.Name x px, .Name y py] kt pt] (.Tuple [a, b] k2 pt2) X.env = pure (some [x, y]) := by rfl) (hs : swapsWithSole [.Tuple [.Name x px, .Name y py] kt pt] (.Tuple [a, b] k2 pt2) pos.line X.env = pure false := by rfl) :
    JS X (.Assign [.Tuple [.Name x px, .Name y py] kt pt] (.Tuple [a, b] k2 pt2) pos) (wPar2 i j w) := js_par2 hc hN hi hj hij hx hy ha hw hs
def pIAdd : P2 := fun x y R => match x, y with
  | .int i, .int j => R (.int (i + j))
  | .str a, .str b => a.length + b.length ≤ 1000000 ∧ R (.str (a ++ b))
  | _, _ => False
def pISub : P2 := ints2 fun i j R => R (.int (i - j))
def pIMul : P2 := ints2 fun i j R => CMul i j ∧ R (.int (i * j))
def pIDiv : P2 := ints2 fun i j R => CDiv i j ∧ R (.int (i / j))
def pIMod : P2 := ints2 fun i j R => 0 < j ∧ R (.int (i % j))
omit [Tb] in
@[simp] theorem pIAdd_ii (i j : Int) (R : PyData → Prop) : pIAdd (.int i) (.int j) R = R (.int (i + j)) := rfl
omit [Tb] in
@[simp] theorem pIAdd_ss (a b : Str) (R : PyData → Prop) : pIAdd (.str a) (.str b) R = (a.length + b.length ≤ 1000000 ∧ R (.str (a ++ b))) := rfl
omit [Tb] in
@[simp] theorem pISub_ii (i j : Int) (R : PyData → Prop) : pISub (.int i) (.int j) R = R (.int (i - j)) := rfl
omit [Tb] in
@[simp] theorem pIMul_ii (i j : Int) (R : PyData → Prop) : pIMul (.int i) (.int j) R = (CMul i j ∧ R (.int (i * j))) := rfl
omit [Tb] in
@[simp] theorem pIDiv_ii (i j : Int) (R : PyData → Prop) : pIDiv (.int i) (.int j) R = (CDiv i j ∧ R (.int (i / j))) := rfl
omit [Tb] in
@[simp] theorem pIMod_ii (i j : Int) (R : PyData → Prop) : pIMod (.int i) (.int j) R = (0 < j ∧ R (.int (i % j))) := rfl
end
end DL
set_option Elab.async false
set_option linter.all false
set_option maxRecDepth 100000
set_option maxHeartbeats 4000000
namespace DL
open PySem PySem.Spec PyProof.Rows L2
variable [Tb]

variable {g : DTG} {t : DT} {e : DE} {vs : List Nat} {xs : List PyData} {δ : DS}
theorem com_map {α : Type} {R : List PyData → DS → Prop} {u : Stop R} (as : List α) (d : α → PyData) (hx : xs = as.map d) (f : α → Option PyData)
    (hs : ∀ a ∈ as, ∀ (acc : List PyData) (K : List PyData → DS → Prop), K (acc ++ (f a).toList) δ → g (d a) δ fun δ1 => t δ1 fun b δ2 => if b = true then e δ2 fun o δ3 => lk o δ3 fun y δ4 => K (acc ++ [y]) (wipeD δ4 vs) else K acc (wipeD δ2 vs)) (k : R (as.filterMap f) δ) : comC g t e vs xs [] δ R u := by
  subst hx
  refine com_inv (fun ys acc δ' => δ' = δ ∧ ∃ bs : List α, ys = bs.map d ∧ (∀ x ∈ bs, x ∈ as) ∧ acc ++ bs.filterMap f = as.filterMap f) ⟨rfl, as, rfl, fun _ h => h, rfl⟩ ?_ ?_
  · rintro acc δ' ⟨rfl, bs, hb, _, h⟩
    have : bs = [] := by cases bs with
      | nil => rfl
      | cons => cases hb
    subst this
    have h' : acc = as.filterMap f := by simpa using h
    rw [h']; exact k
  · rintro x ys acc δ' ⟨rfl, bs, hb, hm, h⟩ K hK
    cases bs with
    | nil => cases hb
    | cons a bs =>
      simp only [List.map_cons, List.cons.injEq] at hb
      obtain ⟨rfl, rfl⟩ := hb
      refine hs a (hm a (List.mem_cons_self ..)) acc K (hK _ _ ⟨rfl, bs, rfl, fun y hy => hm y (List.mem_cons_of_mem _ hy), ?_⟩)
      rw [← h, List.filterMap_cons]
      cases f a <;> simp
theorem nums_map (lo : Int) (n : Nat) : nums lo n = (List.range n).map fun (i : Nat) => PyData.int (lo + (i : Int)) := rfl
theorem nums_0 (n : Nat) : nums 0 n = (List.range n).map fun (i : Nat) => PyData.int (i : Int) := by simp [nums]
theorem log_lt {m : Int} {k : Nat} (h0 : 0 < m) (h1 : m < 2 ^ k) : m.natAbs.log2 < k := by
  have : m.natAbs < 2 ^ k := by
    have e : (m.natAbs : Int) = m := Int.natAbs_of_nonneg (by omega)
    have h2 : ((m.natAbs : Nat) : Int) < ((2 ^ k : Nat) : Int) := by rw [e]; simpa using h1
    exact Int.ofNat_lt.mp h2
  exact (Nat.log2_lt (by omega)).mpr this
theorem ask_of {sp : DSp} {cs : List Cell} {K : PyData → List Cell → Prop} {u : Stop K} (h : sp cs K) : ask sp cs K u := h
theorem ask_draw {a b c : Addr} {m : Int} {K : PyData → List Cell → Prop} {u : Stop K} (h0 : 0 < m) (h1 : m < 2 ^ 64) (k : ∀ r, 0 ≤ r → r < m → K (.int r) [.dk a b c, .d (.int m)]) : ask spDraw [.dk a b c, .d (.int m)] K u :=
  ⟨a, b, c, m, rfl, h0, Nat.lt_trans (log_lt h0 h1) (by decide), k⟩
theorem ask_deck {a : Addr} {ns : List Int} {K : Cell → List Cell → Prop} {u : Stop K} (k : ∀ p q r, K (.dk p q r) [.scr a ns]) : askM spDeck [.scr a ns] K u := ⟨a, ns, rfl, k⟩
end DL
set_option Elab.async false
set_option linter.all false
set_option maxRecDepth 100000
set_option maxHeartbeats 4000000
namespace DL
open PySem PySem.Spec PyProof.Rows L2
variable [Tb]

def Sml (B L : Nat) : Nat → PyData → Prop
  | _, .none => True
  | _, .bool _ => True
  | _, .int i => i.natAbs.log2 < B
  | n + 1, .list xs => xs.length ≤ L ∧ ∀ x ∈ xs, Sml B L n x
  | n + 1, .tuple xs => xs.length ≤ L ∧ ∀ x ∈ xs, Sml B L n x
  | _, _ => False
theorem shownAll_map : ∀ xs : List PyData, PyData.shownAll xs = xs.map PyData.shown
  | [] => by simp [PyData.shownAll]
  | x :: xs => by simp [PyData.shownAll, shownAll_map xs]
omit [Tb] in
@[simp] theorem sml_int (B L n : Nat) (i : Int) : Sml B L n (.int i) = (i.natAbs.log2 < B) := by cases n <;> rfl
omit [Tb] in
@[simp] theorem sml_none (B L n : Nat) : Sml B L n .none = True := by cases n <;> rfl
omit [Tb] in
@[simp] theorem sml_bool (B L n : Nat) (b : Bool) : Sml B L n (.bool b) = True := by cases n <;> rfl
omit [Tb] in
@[simp] theorem sml_list (B L n : Nat) (xs : List PyData) : Sml B L (n + 1) (.list xs) = (xs.length ≤ L ∧ ∀ x ∈ xs, Sml B L n x) := rfl
omit [Tb] in
@[simp] theorem sml_tuple (B L n : Nat) (xs : List PyData) : Sml B L (n + 1) (.tuple xs) = (xs.length ≤ L ∧ ∀ x ∈ xs, Sml B L n x) := rfl
end DL
set_option Elab.async false
set_option linter.all false
set_option maxRecDepth 100000
set_option maxHeartbeats 4000000
namespace DL
open PySem PySem.Spec PyProof.Rows L2
variable [Tb]

def wPar3 (i j k : Nat) (w : DMs) : DTS := fun E δ => w δ fun cs δ1 => ∃ c d e, cs = [c, d, e] ∧ E.nx (((δ1.set i c).set j d).set k e)
omit [Tb] in
@[simp ↓] theorem wPar3_ap (i j k : Nat) (w : DMs) (E : DEnds) (δ : DS) : wPar3 i j k w E δ = (w δ fun cs δ1 => match cs with
  | [c, d, e] => E.nx (((δ1.set i c).set j d).set k e)
  | _ => False) := by
  unfold wPar3
  congr 1; funext cs δ1
  match cs with
  | [] => simp
  | [c] => simp
  | [c, d] => simp
  | [c, d, e] => exact propext ⟨fun ⟨c', d', e', h0, h⟩ => by cases h0; exact h, fun h => ⟨c, d, e, rfl, h⟩⟩
  | c :: d :: e :: f :: r => simp
def wAsgG (w : DE) (g : DTG) : DTS := fun E δ => w δ fun o δ1 => lk o δ1 fun x δ2 => g x δ2 E.nx
omit [Tb] in
@[simp ↓] theorem wAsgG_ap (w : DE) (g : DTG) (E : DEnds) (δ : DS) : wAsgG w g E δ = (w δ fun o δ1 => lk o δ1 fun x δ2 => g x δ2 E.nx) := rfl
section
variable {X : Cx} {pos : Pos} {e : Expr}
end
end DL
set_option Elab.async false
set_option linter.all false
set_option maxRecDepth 100000
set_option maxHeartbeats 4000000
namespace DL
open PySem PySem.Spec PyProof.Rows L2
variable [Tb]

end DL
set_option Elab.async false
set_option linter.all false
set_option maxRecDepth 100000
set_option maxHeartbeats 4000000
namespace DL
open PySem PySem.Spec PyProof.Rows L2
variable [Tb]
section
variable {l : Addr} {its : Array Value} {n : Nat} {dd : Option Addr} {sl : Array (Option Value)} {x : Int} {u : Tok}
theorem fits63 (lo : -(2 ^ 63) ≤ x) (hi : x < 2 ^ 63) : (decide (x < -(2 ^ 63)) || decide (x ≥ 2 ^ 63)) = false := by simp; omega
theorem mul_same (lo : -(2 ^ 63) ≤ x) (hi : x < 2 ^ 63) (same : (its.isEmpty || x == 1) = true) :
    Meets (Builtin.«tuple.__mul__» ⟨[.ref l, .int x u], []⟩) (fun _ R s => s.heap.get? l = some { cls := .type "tuple", dict := dd, data := .seq its n, slots := sl } ∧ R (.ok (.ret (Value.ref l))) s) := by
  refine .of_wp fun prog w A R => ?_
  rintro ⟨hp, gs, dr, tk, os⟩ ⟨at_l, h⟩
  have fit := fits63 lo hi
  have ix := AutoSeq1.idx_int
  wp_walk using wpAny_loadPart' at_l
  all_goals simp only [fit, same, Bool.false_eq_true, ↓reduceIte]
  wp_walk using wpAny_loadPart' at_l
  all_goals (try simp only [fit, same, Bool.false_eq_true, ↓reduceIte])
  all_goals (first | (wp_walk using wpAny_loadPart' at_l; exact ⟨_, rfl, h⟩) | exact ⟨_, rfl, h⟩)
theorem mul_none (lo : -(2 ^ 63) ≤ x) (le : x ≤ 0) (some' : its.isEmpty = false) :
    Meets (Builtin.«tuple.__mul__» ⟨[.ref l, .int x u], []⟩) (fun _ R s => s.heap.get? l = some { cls := .type "tuple", dict := dd, data := .seq its n, slots := sl } ∧
      R (.ok (.ret (Value.ref s.heap.objs.size))) { s with heap := s.heap.push { cls := Value.type "tuple", data := Data.seq #[] }, toks := s.toks }) := by
  refine .of_wp fun prog w A R => ?_
  rintro ⟨hp, gs, dr, tk, os⟩ ⟨at_l, h⟩
  have fit := fits63 lo (Int.lt_of_le_of_lt le (by decide))
  have once : (x == 1) = false := by simp; omega
  have ix := AutoSeq1.idx_int
  wp_walk using wpAny_loadPart' at_l
  all_goals simp only [fit, once, some', Bool.or_false, Bool.false_eq_true, ↓reduceIte]
  wp_walk using wpAny_loadPart' at_l
  all_goals (try simp only [once, some', decide_eq_true le, Bool.or_false, Bool.false_eq_true, ↓reduceIte])
  all_goals (first | (wp_walk using wpAny_loadPart' at_l; exact ⟨_, rfl, h⟩) | exact ⟨_, rfl, h⟩)
end
omit [Tb] in
theorem mul_asks {X : Cx} {s : Shared} {l : Addr} {its : Array Value} {n : Nat} {dd : Option Addr} {sl : Array (Option Value)} {k : Int} {t : Tok} {G E : Value → Shared → Prop}
    (at_l : s.heap.get? l = some { cls := .type "tuple", dict := dd, data := .seq its n, slots := sl }) {W : Shared → Value} {f : Shared → Shared}
    (own : Meets (Builtin.«tuple.__mul__» ⟨[.ref l, .int k t], []⟩) (fun _ R s => s.heap.get? l = some { cls := .type "tuple", dict := dd, data := .seq its n, slots := sl } ∧ R (.ok (.ret (W s))) (f s))) (h : G (W s) (f s)) :
    wpAny (model X.prog X.w) X.A (binaryOp .Mult (.ref l) (.int k t)) G E s := by
  have ty : s.TypeIs (.ref l) "tuple" := ⟨_, at_l, rfl⟩
  have back := int_rmul_tuple k t l its n dd sl
  exact wpAny_binaryOp_repeat_ref (by decide) ty (typeIs_int · k t) noFill_tuple_mul F.fills_int_mul F.slot_int_rmul repeat_tuple F.slot_int_index.lookup
    (call_meets F.slot_int_rmul (typeIs_int s k t) F.entry_int_rmul (F.args_int_rmul_2 _ _) back ⟨at_l, rfl, ty, call_meets F.slot_tuple_mul ty F.entry_tuple_mul (F.args_tuple_mul_2 _ _) own ⟨at_l, h⟩⟩)
def rRepM (K : PySem.W.Frag) : R2 := fun x y H Q => ∃ l k xs, x = .ref l ∧ y = .int k ∧ SqT K H l xs ∧ xs ≠ [] ∧ 2 ≤ k ∧ k ≤ 100000 ∧ k.toNat * xs.length ≤ 1000000 ∧ NewT H Q (List.replicate k.toNat xs).flatten
theorem op_repM {X : Cx} : OpR X (binaryOp .Mult) (rRepM X.K) := by
  rintro pins s σ H _ _ _ _ Q I rx ry ⟨l, k, xs, rfl, rfl, isT, some', two, many, all, q⟩
  cases rx
  obtain ⟨tok, rfl⟩ := ry
  obtain ⟨its, vals, ⟨⟨_, dd, _, sl⟩, at_l, rfl, n, rfl⟩, _⟩ := I.tuple isT
  have len := vals.length
  have all' : (its.toArray.size : Int) * k ≤ 1000000 := by
    have h := Int.ofNat_le.mpr all
    rw [Int.natCast_mul, Int.toNat_of_nonneg (by omega)] at h
    rw [List.size_toArray, ← len, Int.mul_comm]
    exact h
  have put : (List.replicate k.toNat its).flatten.length ≤ sizeLine := by rw [PyProof.Rows.lm_len_rep_flat, ← len]; exact Nat.le_trans all (by decide +kernel)
  have there : its.toArray.isEmpty = false := by
    cases vals with
    | nil => exact absurd rfl some'
    | cons => rfl
  have mul := tuple_mulW l its.toArray n dd sl k tok (fits63 (by omega) (by omega)) (by simp [there]; omega) (by simp [there]; omega) (by omega) (decide_eq_false (by rw [sizeLine_eq]; omega)) (by rw [size_rep, List.size_toArray]; exact put)
  rw [size_rep] at mul
  refine mul_asks at_l mul (q.at (k := s.toks) I ?_ (vals.rep k.toNat))
  rw [PyProof.Rows.lm_len_rep_flat]
  exact Nat.le_trans all (by decide +kernel)
def rRepA (K : PySem.W.Frag) : R2 := fun x y H Q => ∃ l k xs, x = .ref l ∧ y = .int k ∧ SqT K H l xs ∧ -1000 ≤ k ∧ k ≤ 1000 ∧ xs.length ≤ 1000 ∧ (xs = [] ∨ k = 1 → Q (.ref l) H) ∧ (¬ (xs = [] ∨ k = 1) → NewT H Q (List.replicate k.toNat xs).flatten)
section
variable {X : Cx}
theorem op_repA : OpR X (binaryOp .Mult) (rRepA X.K) := by
  rintro pins s σ H _ _ _ _ Q I rx ry ⟨l, k, xs, rfl, rfl, isT, lo, hi, short, once, else'⟩
  by_cases c : 2 ≤ k ∧ xs ≠ []
  · exact op_repM pins s σ H _ _ _ _ Q I rx ry ⟨l, k, xs, rfl, rfl, isT, c.2, c.1, by omega, Nat.le_trans (Nat.mul_le_mul (show k.toNat ≤ 1000 by omega) short) (by decide), else' (fun z => z.elim c.2 (by omega))⟩
  cases rx
  obtain ⟨tok, rfl⟩ := ry
  obtain ⟨its, vals, ⟨⟨_, dd, _, sl⟩, at_l, rfl, n, rfl⟩, _⟩ := I.tuple isT
  by_cases c' : xs = [] ∨ k = 1
  · refine mul_asks at_l (mul_same (by omega) (by omega) ?_) ⟨.ref l, _, I, rfl, once c'⟩
    rcases c' with rfl | rfl
    · cases vals; rfl
    · exact Bool.or_true _
  · have le : k ≤ 0 := by
      have : ¬ k = 1 := fun e => c' (.inr e)
      have : ¬ 2 ≤ k := fun e => c ⟨e, fun z => c' (.inl z)⟩
      omega
    have q := else' c'
    rw [Int.toNat_of_nonpos le] at q
    have q : NewT H Q ([] : List V) := q
    refine mul_asks at_l (mul_none (by omega) le ?_) (q.at (k := s.toks) I (by decide +kernel) .nil)
    cases vals with
    | nil => exact absurd (.inl rfl) c'
    | cons => rfl
def pMulT : P2 := fun x y R => match x, y with
  | .int i, .int j => (CMul i j ∨ CMulW i j) ∧ R (.int (i * j))
  | .list xs, .int k => 0 ≤ k ∧ xs.length * k.toNat ≤ 1000000 ∧ k < 1000000 ∧ R (.list (List.replicate k.toNat xs).flatten)
  | .tuple xs, .int k => (-1000 ≤ k ∧ k ≤ 1000 ∧ xs.length ≤ 1000) ∧ R (.tuple (List.replicate k.toNat xs).flatten)
  | _, _ => False
theorem d_mulT : OpD X (binaryOp .Mult) pMulT := by
  intro pins s σ H x y v u Q I rx ry ⟨B, G, δ, σ', dx, dy, R, rel, bx, by', q, k⟩
  cases dx <;> cases dy <;> first | exact False.elim q | skip
  · exact d_mul pins s σ H x y v u Q I rx ry ⟨B, G, δ, σ', _, _, R, rel, bx, by', q, k⟩
  · exact d_mul pins s σ H x y v u Q I rx ry ⟨B, G, δ, σ', _, _, R, rel, bx, by', q, k⟩
  · rename_i ds i
    obtain ⟨a, vs, rfl, ha, ta⟩ := bor_tupS bx
    obtain ⟨⟨q0, q1, q2⟩, q3⟩ := q
    refine op_repA pins s σ H _ _ v u Q I rx ry ⟨a, i, vs, rfl, bor_int by', sqT_mono rel.sg ha.sq, q0, q1, by rw [ta.len]; exact q2, fun hc => ?_, fun hc p o hd np => ?_⟩
    · refine k _ H G _ q3 (Same.refl _) rel ?_
      rcases hc with rfl | rfl
      · have : ds = [] := by have := ta.len; simp at this; exact List.eq_nil_of_length_eq_zero this.symm
        subst this
        rw [List.flatten_replicate_nil] <;> exact Dn.tup ha ta
      · have e : (List.replicate (1 : Int).toNat ds).flatten = ds := by simp
        rw [e]; exact Dn.tup ha ta
    · obtain ⟨rel3, s3, at3⟩ := rel.laidT np hd
      exact k _ _ _ _ q3 s3 rel3 (Dn.tup at3 ((ta.rep _).mono s3))
omit [Tb] in
@[simp ↓] theorem pMulT_ii (i : Int) (j : Int) (R : PyData → Prop) : pMulT (.int i) (.int j) R = ((CMul i j ∨ CMulW i j) ∧ R (.int (i * j))) := rfl
omit [Tb] in
@[simp ↓] theorem pMulT_li (xs : List PyData) (k : Int) (R : PyData → Prop) : pMulT (.list xs) (.int k) R = (0 ≤ k ∧ xs.length * k.toNat ≤ 1000000 ∧ k < 1000000 ∧ R (.list (List.replicate k.toNat xs).flatten)) := rfl
omit [Tb] in
@[simp ↓] theorem pMulT_ti (xs : List PyData) (k : Int) (R : PyData → Prop) : pMulT (.tuple xs) (.int k) R = ((-1000 ≤ k ∧ k ≤ 1000 ∧ xs.length ≤ 1000) ∧ R (.tuple (List.replicate k.toNat xs).flatten)) := rfl
end
end DL
set_option Elab.async false
set_option linter.all false
set_option maxRecDepth 100000
set_option maxHeartbeats 4000000
namespace DL
open PySem PySem.Spec PyProof.Rows L2
variable [Tb]
mutual
def RdN (h : Heap) (v : Value) : PyData → Prop
  | .dict kvs => kvs = [] ∧ ∃ a o es n, v = .ref a ∧ a ≠ sysModules ∧ h.get? a = some o ∧ o.cls = .type "dict" ∧ o.data = .dict es n ∧ es.toList = []
  | .list xs => ∃ a o vs n, v = .ref a ∧ h.get? a = some o ∧ o.cls = .type "list" ∧ o.data = .seq vs n ∧ RdNs h vs.toList xs
  | .tuple xs => ∃ a o vs n, v = .ref a ∧ h.get? a = some o ∧ o.cls = .type "tuple" ∧ o.data = .seq vs n ∧ RdNs h vs.toList xs
  | d => Reads h v d []
def RdNs (h : Heap) (vs : List Value) : List PyData → Prop
  | [] => vs = []
  | d :: ds => ∃ v us, vs = v :: us ∧ RdN h v d ∧ RdNs h us ds
end
mutual
theorem RdN.reads {h : Heap} : ∀ (d : PyData) {v : Value}, RdN h v d → ∃ as, Reads h v d as
  | .none, _, r => ⟨_, r⟩
  | .bool _, _, r => ⟨_, r⟩
  | .int _, _, r => ⟨_, r⟩
  | .str _, _, r => ⟨_, r⟩
  | .list xs, _, ⟨_, _, _, _, e, h1, h2, h3, h4⟩ => (RdNs.reads xs h4).elim fun _ q => e ▸ ⟨_, Reads.list h1 h2 h3 q⟩
  | .tuple xs, _, ⟨_, _, _, _, e, h1, h2, h3, h4⟩ => (RdNs.reads xs h4).elim fun _ q => e ▸ ⟨_, Reads.tuple h1 h2 h3 q⟩
  | .dict _, _, ⟨z, _, _, _, _, e, _, h1, h2, h3, h4⟩ => e ▸ z ▸ ⟨_, Reads.dict (kvs := []) (as := []) (bs := []) h1 h2 h3 (by rw [h4]; exact ReadsAll.nil) (by rw [h4]; exact ReadsAll.nil)⟩
theorem RdNs.reads {h : Heap} : ∀ (ds : List PyData) {vs : List Value}, RdNs h vs ds → ∃ as, ReadsAll h vs ds as
  | [], _, e => e ▸ ⟨_, ReadsAll.nil⟩
  | d :: ds, _, ⟨_, _, e, a, b⟩ => (RdN.reads d a).elim fun _ p => (RdNs.reads ds b).elim fun _ q => e ▸ ⟨_, ReadsAll.cons p q⟩
end
section
variable {prog : Program} {w : World} {h₀ : Heap}
def Tells (prog : Program) (w : World) (h₀ : Heap) (v : Value) (d : PyData) : Prop :=
  (∃ as, Reads h₀ v d as) ∧ (d.showable = true → d.shown.length ≤ sizeLine → ∃ bs, ReadAtMost h₀ d.depth bs ∧ ReprK prog w bs h₀ d.depth v d.shown)
def TellsAll (prog : Program) (w : World) (h₀ : Heap) (vs : List Value) (ds : List PyData) : Prop :=
  (∃ as, ReadsAll h₀ vs ds as) ∧ (PyData.showableAll ds = true → (∀ t ∈ PyData.shownAll ds, t.length ≤ sizeLine) → ∃ bs, ReadAtMost h₀ (PyData.depthAll ds) bs ∧ ReprAllK prog w bs h₀ (PyData.depthAll ds) vs (PyData.shownAll ds))
def Shows (prog : Program) (w : World) (h₀ : Heap) (v : Value) (d : PyData) : Prop :=
  d.showable = true → d.shown.length ≤ sizeLine → ∃ a T idr, v = .ref a ∧ ShowsBy prog w h₀ a d T idr
theorem TellsAll.none : TellsAll prog w h₀ [] [] := ⟨⟨_, .nil⟩, fun _ _ => ⟨[], nofun, .nil⟩⟩
theorem TellsAll.more {v : Value} {d : PyData} {vs : List Value} {ds : List PyData} (a : Tells prog w h₀ v d) (b : TellsAll prog w h₀ vs ds) : TellsAll prog w h₀ (v :: vs) (d :: ds) := by
  obtain ⟨⟨as, ra⟩, ka⟩ := a
  obtain ⟨⟨bs, rb⟩, kb⟩ := b
  refine ⟨⟨_, .cons ra rb⟩, fun sh short => ?_⟩
  rw [PyData.showableAll, Bool.and_eq_true] at sh
  rw [PyData.shownAll] at short ⊢
  obtain ⟨cs, below_c, one⟩ := ka sh.1 (short _ List.mem_cons_self)
  obtain ⟨ds', below_d, rest⟩ := kb sh.2 fun t m => short t (List.mem_cons_of_mem _ m)
  rw [PyData.depthAll]
  exact ⟨cs ++ ds', (below_c.mono (Nat.le_max_left _ _)).append (below_d.mono (Nat.le_max_right _ _)), .cons ((one.more fun _ => List.mem_append_left _).level_le (Nat.le_max_left _ _)) (rest.more_le (fun _ => List.mem_append_right _) (Nat.le_max_right _ _))⟩
theorem tells_tuple {a : Addr} {o : Obj} {vs : Array Value} {n : Nat} {xs : List PyData} (at_a : h₀.get? a = some o) (cl : o.cls = .type "tuple") (dt : o.data = .seq vs n) (all : TellsAll prog w h₀ vs.toList xs) :
    Tells prog w h₀ (.ref a) (.tuple xs) ∧ Shows prog w h₀ (.ref a) (.tuple xs) := by
  obtain ⟨⟨as, rs⟩, told⟩ := all
  have r : Reads h₀ (.ref a) (.tuple xs) as := .tuple at_a cl dt rs
  have go : (PyData.tuple xs).showable = true → (PyData.tuple xs).shown.length ≤ sizeLine → ∃ bs, ReadAtMost h₀ (PyData.depthAll xs) bs ∧ a ∉ bs ∧ ReprAllK prog w bs h₀ (PyData.depthAll xs) vs.toList (PyData.shownAll xs) := fun sh short => by
    rw [PyData.showable] at sh
    rw [PyData.shown] at short
    obtain ⟨bs, below, k⟩ := told sh fun t m => Nat.le_trans (tupleText_mem_le m) short
    exact ⟨bs, below, not_mem_of_deeper r (by rw [PyData.depth]; omega) below, k⟩
  refine ⟨⟨⟨_, r⟩, fun sh short => ?_⟩, fun sh short => ?_⟩ <;> obtain ⟨bs, below, out, k⟩ := go sh short
  · rw [PyData.depth, PyData.shown]
    exact ⟨a :: bs, ReadAtMost.cons r (by rw [PyData.depth]; omega) below, ReprK.tuple at_a cl dt out k⟩
  · refine ⟨a, "tuple", "tuple.__repr__", rfl, { slotRepr := F.slot_tuple_repr, slotStr := F.slot_tuple_str, slotFmt := F.slot_tuple_format, typeIs := fun s kept => ⟨o, kept _ _ at_a, cl⟩, call := ?_ }⟩
    intro A E s Q calm room kept done
    rw [PyData.depth] at room
    rw [PyData.shown] at done short
    exact call_tuple_reprK at_a cl dt out k calm (fun b _ => Clear.nil b) room kept done short
theorem tells_list {a : Addr} {o : Obj} {vs : Array Value} {n : Nat} {xs : List PyData} (at_a : h₀.get? a = some o) (cl : o.cls = .type "list") (dt : o.data = .seq vs n) (all : TellsAll prog w h₀ vs.toList xs) :
    Tells prog w h₀ (.ref a) (.list xs) ∧ Shows prog w h₀ (.ref a) (.list xs) := by
  obtain ⟨⟨as, rs⟩, told⟩ := all
  have r : Reads h₀ (.ref a) (.list xs) (a :: as) := .list at_a cl dt rs
  have go : (PyData.list xs).showable = true → (PyData.list xs).shown.length ≤ sizeLine → ∃ bs, ReadAtMost h₀ (PyData.depthAll xs) bs ∧ a ∉ bs ∧ ReprAllK prog w bs h₀ (PyData.depthAll xs) vs.toList (PyData.shownAll xs) := fun sh short => by
    rw [PyData.showable] at sh
    rw [PyData.shown] at short
    obtain ⟨bs, below, k⟩ := told sh fun t m => Nat.le_trans (listText_mem_le m) short
    exact ⟨bs, below, not_mem_of_deeper r (by rw [PyData.depth]; omega) below, k⟩
  have slots (call) : ShowsBy prog w h₀ a (.list xs) "list" "list.__repr__" := { slotRepr := F.slot_list_repr.toG, slotStr := F.slot_list_str, slotFmt := F.slot_list_format, typeIs := fun s kept => ⟨o, kept _ _ at_a, cl⟩, call := call }
  rcases vs with ⟨_ | ⟨v, us⟩⟩
  · cases rs
    refine ⟨⟨⟨_, r⟩, fun _ _ => ⟨[a], ReadAtMost.cons r (Nat.le_refl _) nofun, ?_⟩⟩, fun _ _ => ⟨a, _, _, rfl, slots ?_⟩⟩
    · rw [PyData.shown, PyData.shownAll, listText_nil]
      exact ReprK.listEmpty at_a cl dt
    · intro A E s Q calm room kept done
      rw [PyData.shown, PyData.shownAll, listText_nil] at done
      exact call_list_repr_empty ⟨o, kept _ _ at_a, cl⟩ (kept _ _ at_a) dt (done s.heap _ _ fun _ _ e => e)
  · have each : ∀ {bs : List Addr}, ReprAllK prog w bs h₀ (PyData.depthAll xs) (v :: us) (PyData.shownAll xs) → (PyData.shownAll xs).length = (v :: us).toArray.size ∧ ∀ (i : Nat) (y : Value), (v :: us).toArray[i]? = some y → ∃ t, (PyData.shownAll xs)[i]? = some t ∧ ReprK prog w bs h₀ (PyData.depthAll xs) y t :=
      fun k => ⟨k.length_eq, fun i y e => k.item i y (by rw [← List.getElem?_toArray]; exact e)⟩
    refine ⟨⟨⟨_, r⟩, fun sh short => ?_⟩, fun sh short => ?_⟩ <;> obtain ⟨bs, below, out, k⟩ := go sh short
    · rw [PyData.depth, PyData.shown]
      exact ⟨a :: bs, ReadAtMost.cons r (by rw [PyData.depth]; omega) below, ReprK.list at_a cl dt out (each k).1 (each k).2⟩
    · refine ⟨a, _, _, rfl, slots ?_⟩
      intro A E s Q calm room kept done
      rw [PyData.depth] at room
      rw [PyData.shown] at done short
      exact call_list_reprK at_a cl dt out (each k).1 (each k).2 calm (fun b _ => Clear.nil b) room kept done short
theorem tells_empty {a : Addr} {o : Obj} {es : Array DictEntry} {n : Nat} (other : a ≠ sysModules) (at_a : h₀.get? a = some o) (cl : o.cls = .type "dict") (dt : o.data = .dict es n) (no : es.toList = []) :
    Tells prog w h₀ (.ref a) (.dict []) ∧ Shows prog w h₀ (.ref a) (.dict []) := by
  have r : Reads h₀ (.ref a) (.dict []) [a] := Reads.dict (kvs := []) (as := []) (bs := []) at_a cl dt (by rw [no]; exact ReadsAll.nil) (by rw [no]; exact ReadsAll.nil)
  have out : (a == sysModules) = false := beq_false_of_ne other
  have entries : ReprEntriesK prog w [] h₀ 0 es.toList [] := by rw [no]; exact .nil
  have deep : (PyData.dict []).depth = 0 + 1 := by rw [PyData.depth, PyData.depthKv]
  have text : (PyData.dict []).shown = dictText [] := by rw [PyData.shown, PyData.shownKv]
  refine ⟨⟨⟨_, r⟩, fun _ _ => ⟨[a], ReadAtMost.cons r (Nat.le_refl _) nofun, ?_⟩⟩, fun _ short => ⟨a, "dict", "dict.__repr__", rfl, { slotRepr := F.slot_dict_repr, slotStr := F.slot_dict_str, slotFmt := F.slot_dict_format, typeIs := fun s kept => ⟨o, kept _ _ at_a, cl⟩, call := ?_ }⟩⟩
  · rw [deep, text]
    exact ReprK.dict at_a cl dt out List.not_mem_nil entries
  · intro A E s Q calm room kept done
    rw [deep] at room
    rw [text] at done short
    exact call_dict_reprK at_a cl dt out List.not_mem_nil entries calm (fun b _ => Clear.nil b) room kept done short
theorem tells_flat {v : Value} {d : PyData} {t : Str} (r : Reads h₀ v d []) (is : d.showable = true → d.shown.length ≤ sizeLine → ReprIs prog w v d.shown) : Tells prog w h₀ v d :=
  ⟨⟨_, r⟩, fun sh short => ⟨[], nofun, .of_is (is sh short) _ _ _⟩⟩
mutual
theorem RdN.tells : ∀ (d : PyData) {v : Value}, RdN h₀ v d → Tells prog w h₀ v d
  | .none, _, r => tells_flat (t := "") r fun _ _ => by cases r; exact ReprIs.none
  | .bool _, _, r => tells_flat (t := "") r fun _ _ => by cases r; exact ReprIs.bool _
  | .int _, _, r => tells_flat (t := "") r fun sh _ => by cases r; exact ReprIs.int _ (by simpa [PyData.showable] using sh)
  | .str _, _, r => tells_flat (t := "") r fun _ short => by cases r; exact ReprIs.str _ _ (by rw [PyData.shown] at short; exact short)
  | .list xs, _, r => by obtain ⟨a, o, vs, n, rfl, h1, h2, h3, h4⟩ := r; exact (tells_list h1 h2 h3 (RdNs.tells xs h4)).1
  | .tuple xs, _, r => by obtain ⟨a, o, vs, n, rfl, h1, h2, h3, h4⟩ := r; exact (tells_tuple h1 h2 h3 (RdNs.tells xs h4)).1
  | .dict kvs, _, r => by obtain ⟨rfl, a, o, es, n, rfl, h1, h2, h3, h4, h5⟩ := r; exact (tells_empty h1 h2 h3 h4 h5).1
theorem RdNs.tells : ∀ (ds : List PyData) {vs : List Value}, RdNs h₀ vs ds → TellsAll prog w h₀ vs ds
  | [], _, r => by cases r; exact .none
  | d :: ds, _, r => by obtain ⟨v, us, rfl, a, b⟩ := r; exact .more (RdN.tells d a) (RdNs.tells ds b)
end
theorem RdN.shows {a : Addr} : ∀ {d : PyData}, RdN h₀ (.ref a) d → Shows prog w h₀ (.ref a) d
  | .none, r => nomatch (show Reads _ _ _ _ from r)
  | .bool _, r => nomatch (show Reads _ _ _ _ from r)
  | .int _, r => nomatch (show Reads _ _ _ _ from r)
  | .str _, r => nomatch (show Reads _ _ _ _ from r)
  | .list xs, r => by obtain ⟨b, o, vs, n, e, h1, h2, h3, h4⟩ := r; cases e; exact (tells_list h1 h2 h3 (RdNs.tells xs h4)).2
  | .tuple xs, r => by obtain ⟨b, o, vs, n, e, h1, h2, h3, h4⟩ := r; cases e; exact (tells_tuple h1 h2 h3 (RdNs.tells xs h4)).2
  | .dict kvs, r => by obtain ⟨rfl, b, o, es, n, e, h1, h2, h3, h4, h5⟩ := r; cases e; exact (tells_empty h1 h2 h3 h4 h5).2
theorem repr_of_N {a : Addr} {d : PyData} {A : Around} {E : Value → Shared → Prop} {s : Shared} {Q : Value → Shared → Prop} (r : RdN s.heap (.ref a) d) (sh : d.showable = true) (short : d.shown.length ≤ sizeLine) (calm : A.guards = some []) (room : A.units + (d.depth + 1) < cLine)
    (done : ∀ h' u tk, (∀ b o, s.heap.get? b = some o → h'.get? b = some o) → Q (.str d.shown u) { s with heap := h', toks := tk }) : wpAny (model prog w) A (call (.builtin "repr") [.ref a]) Q E s := by
  obtain ⟨_, T, idr, e, S⟩ := RdN.shows (prog := prog) (w := w) r sh short
  cases e
  have in1 : A.in1.units = A.units + 1 := rfl
  exact call_repr_slot (by omega) (S.typeIs s fun _ _ e => e) S.slotRepr (S.call A.in1 E s _ calm (by omega) (fun _ _ e => e) fun h' u tk kept => ⟨_, _, rfl, done h' u tk kept⟩)
end
mutual
def noO : PyData → Bool
  | .list xs | .tuple xs => noOL xs
  | .dict (_ :: _) => false
  | _ => true
def noOL : List PyData → Bool
  | [] => true
  | x :: xs => noO x && noOL xs
end
mutual
theorem noO_show {K : PySem.W.Frag} {G : Hp} : ∀ {v : V} {d : PyData}, Dn K G v d → d.showable = true → noO d = true
  | _, _, .non, _ => rfl
  | _, _, .bl _, _ => rfl
  | _, _, .int _, _ => rfl
  | _, _, .str _, _ => rfl
  | _, _, .lst _ t, h => by rw [noO]; exact noOL_show t (by simpa [PyData.showable] using h)
  | _, _, .tup _ t, h => by rw [noO]; exact noOL_show t (by simpa [PyData.showable] using h)
  | _, _, .dic _ _, _ => rfl
  | _, _, .ob _ _ _ _, h => by
    have z : ¬ markI.natAbs.log2 < 1920 := by decide +kernel
    simp [PyData.showable, PyData.showableKv, z] at h
  | _, _, .fK _ _ _, h => by
    have z : ¬ markI.natAbs.log2 < 1920 := by decide +kernel
    simp [PyData.showable, PyData.showableKv, z] at h
  | _, _, .fT _ _ _, h => by
    have z : ¬ markI.natAbs.log2 < 1920 := by decide +kernel
    simp [PyData.showable, PyData.showableKv, z] at h
theorem noOL_show {K : PySem.W.Frag} {G : Hp} : ∀ {vs : List V} {ds : List PyData}, DnL K G vs ds → PyData.showableAll ds = true → noOL ds = true
  | _, _, .nil, _ => rfl
  | _, _, .cons a b, h => by
    rw [PyData.showableAll, Bool.and_eq_true] at h
    rw [noOL, noO_show a h.1, noOL_show b h.2]
    rfl
end
mutual
theorem noO_lay : ∀ d : PyData, d.canLay0 = true → noO d = true
  | .none, _ => rfl
  | .bool _, _ => rfl
  | .int _, _ => rfl
  | .str _, _ => rfl
  | .list xs, h => by rw [noO]; exact noOL_lay xs (by simpa [PyData.canLay0] using h)
  | .tuple xs, h => by rw [noO]; exact noOL_lay xs (by simpa [PyData.canLay0] using h)
  | .dict _, h => by simp [PyData.canLay0] at h
theorem noOL_lay : ∀ ds : List PyData, PyData.canLayAll0 ds = true → noOL ds = true
  | [], _ => rfl
  | d :: ds, h => by
    rw [PyData.canLayAll0, Bool.and_eq_true] at h
    rw [noOL, noO_lay d h.1, noOL_lay ds h.2]
    rfl
end
omit [Tb] in
@[simp] theorem noO_i (i : Int) : noO (.int i) = true := rfl
omit [Tb] in
@[simp] theorem noO_b (i : Bool) : noO (.bool i) = true := rfl
omit [Tb] in
@[simp] theorem noO_s (i : Str) : noO (.str i) = true := rfl
omit [Tb] in
@[simp] theorem noO_n : noO .none = true := rfl
omit [Tb] in
@[simp] theorem noOL_e : noOL [] = true := rfl
section
variable {X : Cx} {pins : List (Addr × Obj)} {σ : L2.St} {H : Hp} {s : Shared}
mutual
theorem Dn.rdN (I : L2.Inv X pins σ H s) : ∀ (d : PyData) {v : V} {u : Value}, noO d = true → Dn X.K H v d → RelV v u → RdN s.heap u d
  | .none, _, _, _, h, r => by cases h; cases r; exact Reads.none
  | .bool b, _, _, _, h, r => by cases h; cases r; exact Reads.bool b
  | .int i, _, _, _, h, r => by cases h; obtain ⟨t, rfl⟩ := r; exact Reads.int i t
  | .str x, _, _, _, h, r => by cases h; obtain ⟨t, rfl⟩ := r; exact Reads.str x t
  | .list ds, _, _, c, .lst h t, r => by
    rw [noO] at c
    cases r
    obtain ⟨its, rv, ⟨o, n, ho, hc, _, hd⟩, _⟩ := I.list (SqL.of h)
    exact ⟨_, o, _, n, rfl, ho, hc, hd, DnL.rdN I ds c t rv⟩
  | .tuple ds, _, _, c, .tup h t, r => by
    rw [noO] at c
    cases r
    obtain ⟨its, rv, ⟨o, ho, hc, n, hd⟩, _⟩ := I.tuple h.sq
    exact ⟨_, o, _, n, rfl, ho, hc, hd, DnL.rdN I ds c t rv⟩
  | .dict (_ :: _), _, _, c, _, _ => by simp [noO] at c
  | .dict [], _, _, _, .dic h n, r => by
    cases r
    obtain ⟨_, other, vs, kv, o, es, ep, ho, ⟨hc, _⟩, hd, _, hp, _⟩ := I.hok _ _ h
    cases kv
    have no : ∀ l, Pairs (mixKind X.prog X.w) l ([] : List (L2.Key × Value)) → l = [] := fun l q => by cases q; rfl
    exact ⟨rfl, _, o, es, ep, rfl, beq_eq_false_iff_ne.mp other, ho, hc, hd, no _ hp⟩
theorem DnL.rdN (I : L2.Inv X pins σ H s) : ∀ (ds : List PyData) {vs : List V} {us : List Value}, noOL ds = true → DnL X.K H vs ds → Vals vs us → RdNs s.heap us ds
  | [], _, _, _, h, r => by cases h; cases r; exact rfl
  | d :: ds, _, _, c, .cons a b, .cons r1 r2 => by
    rw [noOL, Bool.and_eq_true] at c
    exact ⟨_, _, rfl, Dn.rdN I d c.1 a r1, DnL.rdN I ds c.2 b r2⟩
end
end

def pReprN : PN := one fun x R => x.showable = true ∧ x.depth ≤ 60 ∧ x.shown.length ≤ 16000000 ∧ R (.str x.shown)
section
variable {X : Cx}
theorem c_reprN (hg : X.A.guards = some []) (hu : X.A.units + 64 < cLine) : CallD X (.builtin "repr") pReprN := by
  intro pins s σ H vs us Q I r ⟨B, G, δ, σ', ds, R, rel, b, q, k⟩
  match ds, q with
  | [d], ⟨q1, q3, q4, q⟩ =>
    obtain ⟨v, rfl, bd⟩ := b.one
    obtain ⟨u, rfl, ru⟩ := vals1 r; have dn := bd.dn rel
    have fin := k (.str d.shown) H G _ q (Same.refl _) rel (Dn.str _)
    have hsz : d.shown.length ≤ sizeLine := Nat.le_trans q4 (by decide)
    have rd := Dn.rdN I d (noO_show dn q1) dn ru
    have go : ∀ {x : Str} {t : Tok} {s' : Shared}, x = d.shown → Inv X pins σ H s' → EP X pins σ Q (.str x t) s' := fun {x t s'} e I' => by
      subst e
      exact ⟨.str d.shown, H, I', ⟨t, rfl⟩, fin⟩
    have big : ∀ a, u = .ref a → wpAny (model X.prog X.w) X.A (call (.builtin "repr") [u]) (EP X pins σ Q) X.xe s := fun a e => by
      subst e
      exact repr_of_N rd q1 hsz hg (by omega) fun h' u tk hk => go rfl (I.kept hk)
    cases dn with
    | non => cases ru; exact PySem.P.repr_of_none (go rfl (I.tok _))
    | bl b => cases ru; exact PySem.P.repr_of_bool (go (by cases b <;> simp [PyData.shown]) (I.tok _))
    | int i => obtain ⟨t, rfl⟩ := ru; exact PySem.P.repr_of_int (by simpa [PyData.showable] using q1) (go (by simp [PyData.shown]) (I.tok _))
    | str z => obtain ⟨t, rfl⟩ := ru; exact PySem.P.repr_of_str (go (by simp [PyData.shown]) (I.tok _)) (by simpa [PyData.shown] using hsz)
    | lst h t => cases ru; exact big _ rfl
    | tup h t => cases ru; exact big _ rfl
    | dic h n => cases ru; exact big _ rfl
    | ob h k e t => cases ru; exact big _ rfl
    | fK h e t => cases ru; exact big _ rfl
    | fT h e t => cases ru; exact big _ rfl
end
omit [Tb] in
@[simp ↓] theorem pReprN_x (x : PyData) (R : PyData → Prop) : pReprN [x] R = (x.showable = true ∧ x.depth ≤ 60 ∧ x.shown.length ≤ 16000000 ∧ R (.str x.shown)) := rfl
end DL
set_option Elab.async false
set_option linter.all false
set_option maxRecDepth 100000
set_option maxHeartbeats 4000000
namespace DL
open PySem PySem.Spec PyProof.Rows L2
variable [Tb]
section
variable {prog : Program} {w : World} {A : Around} {E : Value → Shared → Prop} {s : Shared}
end
section
variable {X : Cx}
def revD (x : PyData) (k : PyData → Prop) : Prop := match x with
  | .list ds => k (.list ds.reverse)
  | .tuple ds => k (.tuple ds.reverse)
  | _ => False
omit [Tb] in
@[simp ↓] theorem revD_l (ds : List PyData) (k : PyData → Prop) : revD (.list ds) k = k (.list ds.reverse) := rfl
omit [Tb] in
@[simp ↓] theorem revD_t (ds : List PyData) (k : PyData → Prop) : revD (.tuple ds) k = k (.tuple ds.reverse) := rfl
def wRevA (w : DE) : DE := fun δ R => w δ fun o δ1 => use o δ1 fun x => revD x fun z => R (.d z) δ1
omit [Tb] in
@[simp ↓] theorem wRevA_ap (w : DE) (δ : DS) (R : Opd → DS → Prop) : wRevA w δ R = (w δ fun o δ1 => use o δ1 fun x => revD x fun z => R (.d z) δ1) := rfl
def pAddB : P2 := fun x y R => match x, y with
  | .bool b, .int j => R (.int ((if b = true then 1 else 0) + j))
  | x, y => pAdd x y R
def pSubB : P2 := fun x y R => match x, y with
  | .bool b, .int j => R (.int ((if b = true then 1 else 0) - j))
  | x, y => pSub x y R
theorem d_addB : OpD X (binaryOp .Add) pAddB := by
  intro pins s σ H x y v u Q I rx ry ⟨B, G, δ, σ', dx, dy, R, rel, bx, by', q, k⟩
  by_cases c : ∃ b j, dx = .bool b ∧ dy = .int j
  · obtain ⟨b, j, rfl, rfl⟩ := c
    obtain rfl := bor_bool bx
    obtain rfl := bor_int by'
    cases rx
    obtain ⟨t, rfl⟩ := ry
    exact IntBool.add_bool_int ⟨.int _, H, I.tok _, ⟨_, rfl⟩, k _ H G _ q (Same.refl _) rel (Dn.int _)⟩
  · refine d_add pins s σ H x y v u Q I rx ry ⟨B, G, δ, σ', dx, dy, R, rel, bx, by', ?_, k⟩
    unfold pAddB at q
    split at q
    · exact absurd ⟨_, _, rfl, rfl⟩ c
    · exact q
omit [Tb] in
@[simp ↓] theorem pAddB_bi (b : Bool) (j : Int) (R : PyData → Prop) : pAddB (.bool b) (.int j) R = R (.int ((if b = true then 1 else 0) + j)) := rfl
omit [Tb] in
@[simp ↓] theorem pAddB_ii (i : Int) (j : Int) (R : PyData → Prop) : pAddB (.int i) (.int j) R = (R (.int (i + j))) := rfl
omit [Tb] in
@[simp ↓] theorem pAddB_ss (a : Str) (b : Str) (R : PyData → Prop) : pAddB (.str a) (.str b) R = (a.length + b.length ≤ 1000000 ∧ R (.str (a ++ b))) := rfl
omit [Tb] in
@[simp ↓] theorem pAddB_tt (xs : List PyData) (ys : List PyData) (R : PyData → Prop) : pAddB (.tuple xs) (.tuple ys) R = (xs.length + ys.length ≤ 1000000 ∧ R (.tuple (xs ++ ys))) := rfl
omit [Tb] in
@[simp ↓] theorem pAddB_ll (xs : List PyData) (ys : List PyData) (R : PyData → Prop) : pAddB (.list xs) (.list ys) R = (xs.length + ys.length ≤ 1000000 ∧ R (.list (xs ++ ys))) := rfl
omit [Tb] in
@[simp ↓] theorem pSubB_bi (b : Bool) (j : Int) (R : PyData → Prop) : pSubB (.bool b) (.int j) R = R (.int ((if b = true then 1 else 0) - j)) := rfl
omit [Tb] in
@[simp ↓] theorem pSubB_ii (i : Int) (j : Int) (R : PyData → Prop) : pSubB (.int i) (.int j) R = (R (.int (i - j))) := rfl
end
end DL
namespace DL
open PySem PySem.Spec PyProof.Rows L2
variable [Tb]
def pStrB : PN := one fun x R => match x with
  | .int i => i.natAbs.log2 < 1920 ∧ R (.str (toString i))
  | .bool b => R (.str (if b then ("True" : Str) else ("False" : Str)))
  | .str z => R (.str z)
  | _ => False
section
variable {X : Cx}
omit [Tb] in
@[simp ↓] theorem pStrB_i (i : Int) (R : PyData → Prop) : pStrB [.int i] R = (i.natAbs.log2 < 1920 ∧ R (.str (toString i))) := rfl
omit [Tb] in
@[simp ↓] theorem pStrB_b (b : Bool) (R : PyData → Prop) : pStrB [.bool b] R = R (.str (if b then ("True" : Str) else ("False" : Str))) := rfl
omit [Tb] in
@[simp ↓] theorem pStrB_s (z : Str) (R : PyData → Prop) : pStrB [.str z] R = R (.str z) := rfl
end
section
variable {P : Program} {w : World} {K : PySem.W.Frag} {mg : Str → Option Value} {base : Heap} {CX : CXT} {f : Addr} {fd : FuncData} {ps : List Str} {k : Nat}
end
end DL
set_option Elab.async false
set_option linter.all false
set_option maxRecDepth 100000
set_option maxHeartbeats 4000000
namespace DL
open PySem PySem.Spec PyProof.Rows L2
variable [Tb]
section
omit [Tb]
mutual
theorem noO_alike : ∀ d : PyData, W.alike d d = true → noO d = true
  | .none, _ => rfl
  | .bool _, _ => rfl
  | .int _, _ => rfl
  | .str _, _ => rfl
  | .list xs, h => by rw [noO]; exact noOL_alike xs (by simpa [W.alike] using h)
  | .tuple xs, h => by rw [noO]; exact noOL_alike xs (by simpa [W.alike] using h)
  | .dict _, h => by simp [W.alike] at h
theorem noOL_alike : ∀ ds : List PyData, W.alikeAll ds ds = true → noOL ds = true
  | [], _ => rfl
  | d :: ds, h => by
    rw [W.alikeAll, Bool.and_eq_true] at h
    rw [noOL, noO_alike d h.1, noOL_alike ds h.2]
    rfl
end
end
abbrev leD : PyData → PyData → Bool := W.dataLe false id
def sortD (ds : List PyData) : List PyData := ds.mergeSort leD
def pSorted : PN := one fun x R => match x with
  | .list ds => W.AllAlike ds ∧ W.Sortable ds ∧ ds.length ≤ 1000000 ∧ (∀ d ∈ ds, d.depth ≤ 50) ∧ R (.list (sortD ds))
  | _ => False
section
variable {X : Cx}
end
omit [Tb] in
@[simp ↓] theorem pSorted_l (ds : List PyData) (R : PyData → Prop) : pSorted [.list ds] R = (W.AllAlike ds ∧ W.Sortable ds ∧ ds.length ≤ 1000000 ∧ (∀ d ∈ ds, d.depth ≤ 50) ∧ R (.list (sortD ds))) := rfl
end DL
set_option Elab.async false
set_option linter.all false
set_option maxRecDepth 100000
set_option maxHeartbeats 4000000
namespace DL
open PySem PySem.Spec PyProof.Rows L2
variable [Tb]
def pMaxS : PN := one fun x R => match x with
  | .list ds => ∃ ns : List Int, ds = ns.map PyData.int ∧ 0 < ns.length ∧ ∀ m, m ∈ ns → (∀ y ∈ ns, y ≤ m) → R (.int m)
  | .tuple ds => ∃ ns : List Int, ds = ns.map PyData.int ∧ 0 < ns.length ∧ ∀ m, m ∈ ns → (∀ y ∈ ns, y ≤ m) → R (.int m)
  | _ => False
def pMinS : PN := one fun x R => match x with
  | .list ds => ∃ ns : List Int, ds = ns.map PyData.int ∧ 0 < ns.length ∧ ∀ m, m ∈ ns → (∀ y ∈ ns, m ≤ y) → R (.int m)
  | .tuple ds => ∃ ns : List Int, ds = ns.map PyData.int ∧ 0 < ns.length ∧ ∀ m, m ∈ ns → (∀ y ∈ ns, m ≤ y) → R (.int m)
  | _ => False
section
variable {X : Cx}
end
omit [Tb] in
@[simp ↓] theorem pMaxS_l (ds : List PyData) (R : PyData → Prop) : pMaxS [.list ds] R = onIs ds (fun ns => 0 < ns.length ∧ ∀ m, m ∈ ns → (∀ y ∈ ns, y ≤ m) → R (.int m)) .mk := rfl
omit [Tb] in
@[simp ↓] theorem pMinS_l (ds : List PyData) (R : PyData → Prop) : pMinS [.list ds] R = onIs ds (fun ns => 0 < ns.length ∧ ∀ m, m ∈ ns → (∀ y ∈ ns, m ≤ y) → R (.int m)) .mk := rfl
omit [Tb] in
@[simp ↓] theorem pMaxS_t (ds : List PyData) (R : PyData → Prop) : pMaxS [.tuple ds] R = onIs ds (fun ns => 0 < ns.length ∧ ∀ m, m ∈ ns → (∀ y ∈ ns, y ≤ m) → R (.int m)) .mk := rfl
omit [Tb] in
@[simp ↓] theorem pMinS_t (ds : List PyData) (R : PyData → Prop) : pMinS [.tuple ds] R = onIs ds (fun ns => 0 < ns.length ∧ ∀ m, m ∈ ns → (∀ y ∈ ns, m ≤ y) → R (.int m)) .mk := rfl
end DL
set_option Elab.async false
set_option linter.all false
set_option maxRecDepth 100000
set_option maxHeartbeats 4000000
namespace DL
open PySem PySem.Spec PyProof.Rows L2
variable [Tb]
section
variable {X : Cx} {pos : Pos} {i : Nat}
end
def endsM (i : Nat) (cs : List Cell) (R : Cell → List Cell → Prop) : DEnds := { nx := fun δ => sameIo cs δ ∧ cs.length ≤ i ∧ ∃ a xs, δ[i]? = some (.ol a xs) ∧ R (.ol a xs) (outC cs δ), rt := fun _ _ => False }
section
variable {P : Program} {w : World} {K : PySem.W.Frag} {mg : Str → Option Value} {base : Heap}
end
def wLstRg1 (w : DE) : DL := fun δ R => w δ fun o δ1 => use o δ1 fun x => asI x (fun n => -1000000 ≤ n ∧ n ≤ 1000000 ∧ R (nums 0 n.toNat) δ1) .mk
def wLstRg2 (w u : DE) : DL := fun δ R => w δ fun o δ1 => u δ1 fun o2 δ2 => use o δ2 fun x => use o2 δ2 fun y => asI x (fun m => asI y (fun n => (-1000000 ≤ m ∧ m ≤ 1000000 ∧ -1000000 ≤ n ∧ n ≤ 1000000) ∧ R (nums m (n - m).toNat) δ2) .mk) .mk
omit [Tb] in
@[simp ↓] theorem wLstRg1_ap (w : DE) (δ : DS) (R : List PyData → DS → Prop) : wLstRg1 w δ R = (w δ fun o δ1 => use o δ1 fun x => asI x (fun n => -1000000 ≤ n ∧ n ≤ 1000000 ∧ R (nums 0 n.toNat) δ1) .mk) := rfl
omit [Tb] in
@[simp ↓] theorem wLstRg2_ap (w u : DE) (δ : DS) (R : List PyData → DS → Prop) : wLstRg2 w u δ R = (w δ fun o δ1 => u δ1 fun o2 δ2 => use o δ2 fun x => use o2 δ2 fun y => asI x (fun m => asI y (fun n => (-1000000 ≤ m ∧ m ≤ 1000000 ∧ -1000000 ≤ n ∧ n ≤ 1000000) ∧ R (nums m (n - m).toNat) δ2) .mk) .mk) := rfl
section
variable {X : Cx} {pos : Pos}
def wPopA (i : Nat) (w : DE) : DE := fun δ R => isOl δ i ∧ w δ fun o δ1 => use o δ1 fun z => asI z (fun j => olC δ1[i]? (fun a xs => 0 ≤ j ∧ j < xs.length ∧ xs.length ≤ 1000000 ∧ onS xs[j.toNat]? (fun y => R (.d y) (δ1.set i (.ol a (xs.eraseIdx j.toNat)))) .mk) .mk) .mk
omit [Tb] in
@[simp ↓] theorem wPopA_ap (i : Nat) (w : DE) (δ : DS) (R : Opd → DS → Prop) : wPopA i w δ R = (isOl δ i ∧ w δ fun o δ1 => use o δ1 fun z => asI z (fun j => olC δ1[i]? (fun a xs => 0 ≤ j ∧ j < xs.length ∧ xs.length ≤ 1000000 ∧ onS xs[j.toNat]? (fun y => R (.d y) (δ1.set i (.ol a (xs.eraseIdx j.toNat)))) .mk) .mk) .mk) := rfl
end
def lsC (x : PyData) (k : List PyData → Prop) (_u : Stop k) : Prop := match x with
  | .list xs => k xs
  | _ => False
omit [Tb] in
@[simp ↓] theorem lsC_l (xs : List PyData) (k : List PyData → Prop) (u : Stop k) : lsC (.list xs) k u = k xs := rfl
def ixOf (ds : List PyData) (y : PyData) : Option Nat := ds.findIdx? fun z => PyData.eqv z y
def wIndex (w u : DE) : DE := fun δ R => w δ fun o δ1 => use o δ1 fun x => lsC x (fun _ => u δ1 fun o2 δ2 => use o δ2 fun x2 => use o2 δ2 fun y => lsC x2 (fun ds => SeqAt.shaped (.list ds) = true ∧ SeqAt.shaped y = true ∧ onS (ixOf ds y) (fun j => R (.d (.int (j : Nat))) δ2) .mk) .mk) .mk
omit [Tb] in
@[simp ↓] theorem wIndex_ap (w u : DE) (δ : DS) (R : Opd → DS → Prop) : wIndex w u δ R = (w δ fun o δ1 => use o δ1 fun x => lsC x (fun _ => u δ1 fun o2 δ2 => use o δ2 fun x2 => use o2 δ2 fun y => lsC x2 (fun ds => SeqAt.shaped (.list ds) = true ∧ SeqAt.shaped y = true ∧ onS (ixOf ds y) (fun j => R (.d (.int (j : Nat))) δ2) .mk) .mk) .mk) := rfl
section
variable {X : Cx} {pos : Pos}
end
end DL
set_option Elab.async false
set_option linter.all false
set_option maxRecDepth 100000
set_option maxHeartbeats 4000000
namespace DL
open PySem PySem.Spec PyProof.Rows L2
variable [Tb]
variable {g : DTG} {t : DT} {e : DE} {vs : List Nat} {xs : List PyData} {δ : DS}
end DL
set_option Elab.async false
set_option linter.all false
set_option maxRecDepth 100000
set_option maxHeartbeats 4000000
namespace DL
open PySem PySem.Spec PyProof.Rows L2
variable [Tb]
mutual
theorem eq_of_eqv : ∀ (x y : PyData), W.alike x y = true → PyData.eqv x y = true → x = y
  | .none, y, h, e => by cases y <;> simp [W.alike] at h ⊢
  | .bool a, y, h, e => by cases y <;> simp [W.alike, PyData.eqv] at h e ⊢; exact e
  | .int a, y, h, e => by cases y <;> simp [W.alike, PyData.eqv] at h e ⊢; exact e
  | .str a, y, h, e => by cases y <;> simp [W.alike, PyData.eqv] at h e ⊢; exact e
  | .list xs, y, h, e => by
    cases y with
    | list ys => rw [eq_of_eqvAll xs ys (by simpa [W.alike] using h) (by simpa [PyData.eqv] using e)]
    | _ => simp [W.alike] at h
  | .tuple xs, y, h, e => by
    cases y with
    | tuple ys => rw [eq_of_eqvAll xs ys (by simpa [W.alike] using h) (by simpa [PyData.eqv] using e)]
    | _ => simp [W.alike] at h
  | .dict xs, y, h, e => by cases y <;> simp [W.alike] at h
theorem eq_of_eqvAll : ∀ (xs ys : List PyData), W.alikeAll xs ys = true → PyData.eqvAll xs ys = true → xs = ys
  | [], ys, h, e => by cases ys <;> simp [PyData.eqvAll] at e ⊢
  | x :: xs, ys, h, e => by
    cases ys with
    | nil => simp [PyData.eqvAll] at e
    | cons y ys =>
      rw [W.alikeAll, Bool.and_eq_true] at h
      rw [PyData.eqvAll, Bool.and_eq_true] at e
      rw [eq_of_eqv x y h.1 e.1, eq_of_eqvAll xs ys h.2 e.2]
end
end DL
set_option Elab.async false
set_option linter.all false
set_option maxRecDepth 100000
set_option maxHeartbeats 4000000
namespace DL
open PySem PySem.Spec PyProof.Rows L2
variable [Tb]
inductive Pt
  | val (d : PyData)
  | cap (i : Nat)
def eachM : List Pt → List PyData → (Option (List (Nat × PyData)) → Prop) → Prop
  | [], [], k => k (some [])
  | .val d :: ps, x :: xs, k => pEq x d fun z => ∃ b, z = .bool b ∧ if b = true then eachM ps xs k else k none
  | .cap i :: ps, x :: xs, k => eachM ps xs fun o => match o with
    | none => k none
    | some bs => k (some ((i, x) :: bs))
  | _, _, _ => False
def setsD (δ : DS) : List (Nat × PyData) → DS
  | [] => δ
  | (i, x) :: r => setsD (δ.set i (.d x)) r
inductive Ct
  | seq (ps : List Pt) (b : DTS)
  | wild (b : DTS)
def caseM : List Ct → List PyData → DTS
  | [], _, E, δ => E.nx δ
  | .wild b :: _, _, E, δ => b E δ
  | .seq ps b :: cs, xs, E, δ => if xs.length = ps.length then eachM ps xs fun o => match o with
      | none => caseM cs xs E δ
      | some bs => b E (setsD δ bs)
    else caseM cs xs E δ
def tpC (x : PyData) (k : List PyData → Prop) (_u : Stop k) : Prop := match x with
  | .tuple xs => k xs
  | _ => False
omit [Tb] in
@[simp ↓] theorem tpC_t (xs : List PyData) (k : List PyData → Prop) (u : Stop k) : tpC (.tuple xs) k u = k xs := rfl
def wMatch (w : DE) (cs : List Ct) : DTS := fun E δ => w δ fun o δ1 => lk o δ1 fun x δ2 => tpC x (fun xs => xs.length ≤ 1000000 ∧ caseM cs xs E δ2) .mk
omit [Tb] in
@[simp ↓] theorem wMatch_ap (w : DE) (cs : List Ct) (E : DEnds) (δ : DS) : wMatch w cs E δ = (w δ fun o δ1 => lk o δ1 fun x δ2 => tpC x (fun xs => xs.length ≤ 1000000 ∧ caseM cs xs E δ2) .mk) := rfl
omit [Tb] in
@[simp ↓] theorem eachM_nil (k : Option (List (Nat × PyData)) → Prop) : eachM [] [] k = k (some []) := rfl
omit [Tb] in
@[simp ↓] theorem eachM_val (d x : PyData) (ps : List Pt) (xs : List PyData) (k : Option (List (Nat × PyData)) → Prop) : eachM (.val d :: ps) (x :: xs) k = (pEq x d fun z => ∃ b, z = .bool b ∧ if b = true then eachM ps xs k else k none) := rfl
omit [Tb] in
@[simp ↓] theorem eachM_cap (i : Nat) (x : PyData) (ps : List Pt) (xs : List PyData) (k : Option (List (Nat × PyData)) → Prop) : eachM (.cap i :: ps) (x :: xs) k = (eachM ps xs fun o => match o with
    | none => k none
    | some bs => k (some ((i, x) :: bs))) := rfl
omit [Tb] in
@[simp ↓] theorem caseM_nil (xs : List PyData) (E : DEnds) (δ : DS) : caseM [] xs E δ = E.nx δ := rfl
omit [Tb] in
@[simp ↓] theorem caseM_wild (b : DTS) (cs : List Ct) (xs : List PyData) (E : DEnds) (δ : DS) : caseM (.wild b :: cs) xs E δ = b E δ := rfl
omit [Tb] in
@[simp ↓] theorem caseM_seq (ps : List Pt) (b : DTS) (cs : List Ct) (xs : List PyData) (E : DEnds) (δ : DS) : caseM (.seq ps b :: cs) xs E δ = (if xs.length = ps.length then eachM ps xs fun o => match o with
      | none => caseM cs xs E δ
      | some bs => b E (setsD δ bs)
    else caseM cs xs E δ) := rfl
omit [Tb] in
@[simp ↓] theorem setsD_nil (δ : DS) : setsD δ [] = δ := rfl
omit [Tb] in
@[simp ↓] theorem setsD_cons (δ : DS) (i : Nat) (x : PyData) (r : List (Nat × PyData)) : setsD δ ((i, x) :: r) = setsD (δ.set i (.d x)) r := rfl
inductive PtOk (X : Cx) : List Pattern → List Pt → Prop
  | nil : PtOk X [] []
  | val {e : Expr} {v : V} {d : PyData} {pos : Pos} {ps : List Pattern} {qs : List Pt} (h : PE X e (tC v)) (hv : ∀ K G, Dn K G v d) (t : PtOk X ps qs) : PtOk X (.MatchValue e pos :: ps) (.val d :: qs)
  | cap {x : Str} {i : Nat} {pos : Pos} {ps : List Pattern} {qs : List Pt} (hi : X.N[i]? = some x) (hx : Loc X.env.scope x) (hf : X.fn x = true ∨ X.env.scope.names.lookup x = some .local) (t : PtOk X ps qs) : PtOk X (.MatchAs none (some x) pos :: ps) (.cap i :: qs)
theorem PtOk.len {X : Cx} {ps : List Pattern} {qs : List Pt} (h : PtOk X ps qs) : ps.length = qs.length := by
  induction h with
  | nil => rfl
  | val _ _ _ ih => simp [ih]
  | cap _ _ _ _ ih => simp [ih]
inductive BsOk (X : Cx) (G : Hp) : List (Str × Value) → List (Nat × PyData) → Prop
  | nil : BsOk X G [] []
  | cons {x : Str} {u : Value} {v : V} {i : Nat} {d : PyData} {bs : List (Str × Value)} {os : List (Nat × PyData)} (hi : X.N[i]? = some x) (hx : Loc X.env.scope x) (hf : X.fn x = true ∨ X.env.scope.names.lookup x = some .local) (r : RelV v u) (h : Dn X.K G v d) (t : BsOk X G bs os) : BsOk X G ((x, u) :: bs) ((i, d) :: os)
inductive RoOk (X : Cx) (G : Hp) : Option (List (Str × Value)) → Option (List (Nat × PyData)) → Prop
  | none : RoOk X G none none
  | some {bs : List (Str × Value)} {os : List (Nat × PyData)} (h : BsOk X G bs os) : RoOk X G (some bs) (some os)
section
variable {X : Cx}
inductive CsOk (X : Cx) : List MatchCase → List Ct → Prop
  | nil : CsOk X [] []
  | wild {body : List Stmt} {b : DTS} {pos : Pos} {rest : List MatchCase} {ws : List Ct} (hb : JSs X body b) : CsOk X (⟨.MatchAs none none pos, none, body⟩ :: rest) (.wild b :: ws)
  | seq {ps : List Pattern} {qs : List Pt} {pos : Pos} {body : List Stmt} {b : DTS} {rest : List MatchCase} {ws : List Ct} (h : PtOk X ps qs) (hstar : ps.findIdx? (·.isStar) = none) (hwild : (ps.all fun p => p.isWildcard || (p.isStar && p.names.isEmpty)) = false) (hb : JSs X body b) (t : CsOk X rest ws) : CsOk X (⟨.MatchSequence ps pos, none, body⟩ :: rest) (.seq qs b :: ws)
theorem PtOk.str {x : Str} {j : Nat} {p pos : Pos} {ps : List Pattern} {qs : List Pt} (t : PtOk X ps qs) : PtOk X (.MatchValue (.Constant (.str x) j p) pos :: ps) (.val (.str x) :: qs) := .val pe_str (fun _ _ => .str x) t
theorem PtOk.int {x : Int} {j : Nat} {p pos : Pos} {ps : List Pattern} {qs : List Pt} (t : PtOk X ps qs) : PtOk X (.MatchValue (.Constant (.int x) j p) pos :: ps) (.val (.int x) :: qs) := .val pe_int (fun _ _ => .int x) t
end
end DL
namespace DL
open PySem PySem.Spec PyProof.Rows L2
variable [Tb]
end DL
set_option Elab.async false
set_option linter.all false
set_option maxRecDepth 100000
set_option maxHeartbeats 4000000
namespace DL
open PySem PySem.Spec PyProof.Rows L2
variable [Tb]
def wPar4 (i j k l : Nat) (w : DMs) : DTS := fun E δ => w δ fun cs δ1 => ∃ c d e f, cs = [c, d, e, f] ∧ E.nx ((((δ1.set i c).set j d).set k e).set l f)
omit [Tb] in
@[simp ↓] theorem wPar4_ap (i j k l : Nat) (w : DMs) (E : DEnds) (δ : DS) : wPar4 i j k l w E δ = (w δ fun cs δ1 => match cs with
  | [c, d, e, f] => E.nx ((((δ1.set i c).set j d).set k e).set l f)
  | _ => False) := by
  unfold wPar4
  congr 1; funext cs δ1
  match cs with
  | [] => simp
  | [c] => simp
  | [c, d] => simp
  | [c, d, e] => simp
  | [c, d, e, f] => exact propext ⟨fun ⟨c', d', e', f', h0, h⟩ => by cases h0; exact h, fun h => ⟨c, d, e, f, rfl, h⟩⟩
  | c :: d :: e :: f :: g :: r => simp
section
variable {X : Cx} {pos : Pos}
end
end DL
set_option Elab.async false
set_option linter.all false
set_option maxRecDepth 100000
set_option maxHeartbeats 4000000
namespace DL
open PySem PySem.Spec PyProof.Rows L2
variable [Tb]
section
variable {X : Cx} {pos : Pos}
end
end DL
set_option Elab.async false
set_option linter.all false
set_option maxRecDepth 100000
set_option maxHeartbeats 4000000
namespace DL
open PySem PySem.Spec PyProof.Rows L2
variable [Tb]
section
variable {X : Cx}
def pMulW : P2 := fun x y R => match x, y with
  | .tuple xs, .int k => (0 < xs.length ∧ xs.length ≤ 10 ∧ 2 ≤ k ∧ k ≤ 100000) ∧ R (.tuple (List.replicate k.toNat xs).flatten)
  | _, _ => False
omit [Tb] in
@[simp ↓] theorem pMulW_ti (xs : List PyData) (k : Int) (R : PyData → Prop) : pMulW (.tuple xs) (.int k) R = ((0 < xs.length ∧ xs.length ≤ 10 ∧ 2 ≤ k ∧ k ≤ 100000) ∧ R (.tuple (List.replicate k.toNat xs).flatten)) := rfl
end
end DL
set_option Elab.async false
set_option linter.all false
set_option maxRecDepth 100000
set_option maxHeartbeats 4000000
namespace DL
open PySem PySem.Spec PyProof.Rows L2
variable [Tb]
section
variable {X : Cx} {nm : Option Str} {e : Expr} {kws : List Keyword} {kpos : Pos}
abbrev JK (X : Cx) (kws : List Keyword) (w : DA) : Prop := PK X kws (upA X.K w)
theorem pk_le {t t' : TA} (h : PK X kws t) (hw : ∀ (pins : List (Addr × Obj)) (s : Shared) (σ : L2.St) (H : Hp) (Q : List V → Hp → Prop), Inv X pins σ H s → t' σ H Q → t σ H Q) : PK X kws t' :=
  ⟨fun pos pins s σ H Q I q => h.run pos pins s σ H Q I (hw pins s σ H Q I q)⟩
theorem jk_nil : JK X [] wNil := pk_le pk_nil fun pins s σ H Q I ⟨B, G, δ, R, rel, hw, k⟩ => k [] H G _ _ hw (Same.refl _) rel .nil
theorem jk_cons {w : DE} {r : DA} (ha : JE X e w) (hr : JK X kws r) : JK X (⟨nm, e, kpos⟩ :: kws) (wCons w r) :=
  pk_le (pk_cons ha hr) fun pins s σ H Q I ⟨B, G, δ, R, rel, hw, k⟩ =>
    ⟨B, G, δ, _, rel, hw, fun v H1 G1 o δ1 r1 s1 rel1 ok1 => ⟨B, G1, δ1, _, rel1, r1, fun vs H2 G2 os δ2 r2 s2 rel2 ok2 => k (v :: vs) H2 G2 _ _ r2 (s1.trans s2) rel2 (.cons (ok1.mono s2) ok2)⟩⟩
end
def permO {α : Type} (z : α) (ix : List Nat) (os : List α) : List α := ix.map fun i => os.getD i z
def KB0 (K : PySem.W.Frag) (fd : FuncData) (ps ks : List Str) (ix : List Nat) : Prop :=
  ∀ (s : Shared) (ws : List Value), K.In s.heap → ws.length = ks.length → BindsTo s fd ⟨[], ks.zip ws⟩ (ps.zip (permO Value.none ix ws))
theorem KB0.of {K : PySem.W.Frag} {fd : FuncData} {ps ks : List Str} {ix : List Nat} (h : ∀ ws : List Value, ws.length = ks.length → bindArgs fd ⟨[], ks.zip ws⟩ = pure (ps.zip (permO Value.none ix ws))) : KB0 K fd ps ks ix := fun s ws _ hl => .of_eq (h ws hl)
theorem Fun.kb {K : PySem.W.Frag} {x qual : Str} {st : Stmt} {f : Addr} {fd : FuncData} {ps ks : List Str} {ix : List Nat} (F : Fun K x qual st f fd)
    (h : ∀ (kV doc pm : Value) (an : Option Addr) (cdv ct : Value) (ws : List Value), ws.length = ks.length → bindArgs (PySem.W.fnOf x qual (defArgs st) (defBody st) (defScope st) .none kV doc pm an cdv ct) ⟨[], ks.zip ws⟩ = pure (ps.zip (permO Value.none ix ws))) : KB0 K fd ps ks ix := by
  obtain ⟨oc, od, kV, doc, pm, an, cdv, ct, osl, rfl, lk, hcd⟩ := F.ex
  exact .of (h kV doc pm an cdv ct)
def wCallK (n : Nat) (ix : List Nat) (sp : DSp) (w : DA) : DE := fun δ R => w δ fun os δ1 => lkM [] os δ1 fun os' δ2 => (os'.length = n ∧ ∀ i ∈ ix, i < n) ∧ (slotsOf (permO (.d .none) ix os')).Nodup ∧ sp ((permO (.d .none) ix os').map (cellOf δ2)) fun x cs => R (.d x) (putBack (permO (.d .none) ix os') cs δ2)
theorem getD_some {α : Type} {l : List α} {i : Nat} (h : i < l.length) (z : α) : l[i]? = some (l.getD i z) := by
  rw [List.getD_eq_getElem?_getD, List.getElem?_eq_getElem h]; rfl
theorem perm_vals {vs : List V} {us : List Value} (r : Vals vs us) : ∀ ix : List Nat, (∀ i ∈ ix, i < vs.length) → Vals (permO V.non ix vs) (permO Value.none ix us)
  | [], _ => .nil
  | i :: ix, h => by
    have hi := h i (List.mem_cons_self ..)
    obtain ⟨u, hu, ru⟩ := Vals.get r (getD_some hi V.non)
    have e : us.getD i Value.none = u := by rw [List.getD_eq_getElem?_getD, hu]; rfl
    refine .cons ?_ (perm_vals r ix fun j hj => h j (List.mem_cons_of_mem _ hj))
    show RelV (vs.getD i V.non) (us.getD i Value.none)
    rw [e]; exact ru
section
variable {X : Cx} {CX : CXT} {k : Nat} {f : Addr} {fd : FuncData} {ps ks : List Str} {x : Str} {p pos : Pos} {kws : List Keyword} {ix : List Nat}
end
omit [Tb] in
@[simp ↓] theorem wCallK_ap (n : Nat) (ix : List Nat) (sp : DSp) (w : DA) (δ : DS) (R : Opd → DS → Prop) : wCallK n ix sp w δ R = (w δ fun os δ1 => lkM [] os δ1 fun os' δ2 => (os'.length = n ∧ ∀ i ∈ ix, i < n) ∧ (slotsOf (permO (.d .none) ix os')).Nodup ∧ ask sp ((permO (.d .none) ix os').map (cellOf δ2)) (fun x cs => R (.d x) (putBack (permO (.d .none) ix os') cs δ2)) .mk) := rfl
omit [Tb] in
@[simp ↓] theorem permO_nil {α : Type} (z : α) (os : List α) : permO z [] os = [] := rfl
omit [Tb] in
@[simp ↓] theorem permO_cons {α : Type} (z : α) (i : Nat) (ix : List Nat) (os : List α) : permO z (i :: ix) os = os.getD i z :: permO z ix os := rfl
end DL
set_option Elab.async false
set_option linter.all false
set_option maxRecDepth 100000
set_option maxHeartbeats 4000000
namespace DL
open PySem PySem.Spec PyProof.Rows L2
variable [Tb]
abbrev KVs := List (List Int × PyData)
def valD (kvs : KVs) (k : List Int) : Option PyData := (kvs.find? fun p => decide (p.1 = k)).map (·.2)
def putD (kvs : KVs) (k : List Int) (x : PyData) : KVs := if (kvs.any fun p => decide (p.1 = k)) = true then kvs.map (fun p => if p.1 = k then (p.1, x) else p) else kvs ++ [(k, x)]
theorem keyI_inj : ∀ {a b : List Int}, keyI a = keyI b → a = b
  | [], [], _ => rfl
  | [], _ :: _, h => by simp [keyI] at h
  | _ :: _, [], h => by simp [keyI] at h
  | x :: a, y :: b, h => by
    have h : (Sum.inl x : Key) :: keyI a = (Sum.inl y : Key) :: keyI b := h
    obtain ⟨h1, h2⟩ := List.cons.inj h
    rw [keyI_inj h2, Sum.inl.inj h1]
section
variable {K : PySem.W.Frag} {G : Hp}
theorem DnK.nil : DnK K G [] [] := ⟨rfl, .nil⟩
theorem DnK.cons {w : List Key × V} {ws : List (List Key × V)} {p : List Int × PyData} {kvs : KVs} (h1 : w.1 = keyI p.1) (h2 : Dn K G w.2 p.2) (t : DnK K G ws kvs) : DnK K G (w :: ws) (p :: kvs) := ⟨by rw [List.map_cons, List.map_cons, h1, t.1], .cons h2 t.2⟩
theorem DnK.inv {ws : List (List Key × V)} {p : List Int × PyData} {kvs : KVs} (h : DnK K G ws (p :: kvs)) : ∃ w ws', ws = w :: ws' ∧ w.1 = keyI p.1 ∧ Dn K G w.2 p.2 ∧ DnK K G ws' kvs := by
  obtain ⟨h1, h2⟩ := h
  cases ws with
  | nil => simp at h1
  | cons w ws =>
    rw [List.map_cons, List.map_cons] at h1
    obtain ⟨a, b⟩ := List.cons.inj h1
    cases h2 with
    | cons c d => exact ⟨w, ws, rfl, a, c, b, d⟩
theorem DnK.inv0 {ws : List (List Key × V)} (h : DnK K G ws []) : ws = [] := by
  have := h.1
  cases ws with
  | nil => rfl
  | cons w ws => simp at this
theorem DnK.len : ∀ {kvs : KVs} {ws : List (List Key × V)}, DnK K G ws kvs → ws.length = kvs.length
  | [], ws, h => by rw [h.inv0]; rfl
  | p :: kvs, ws, h => by
    obtain ⟨w, ws', rfl, _, _, t⟩ := h.inv
    rw [List.length_cons, List.length_cons, t.len]
theorem DnK.mono {G' : Hp} {kvs : KVs} {ws : List (List Key × V)} (h : DnK K G ws kvs) (s : Same G G') : DnK K G' ws kvs := ⟨h.1, h.2.mono s⟩
theorem DnK.val (k : List Int) : ∀ {kvs : KVs} {ws : List (List Key × V)}, DnK K G ws kvs → (valD kvs k = none ∧ valV ws (keyI k) = none) ∨ ∃ x v, valD kvs k = some x ∧ valV ws (keyI k) = some v ∧ Dn K G v x
  | [], ws, h => by rw [h.inv0]; exact .inl ⟨rfl, rfl⟩
  | p :: kvs, ws, h => by
    obtain ⟨w, ws', rfl, e, d, t⟩ := h.inv
    by_cases q : p.1 = k
    · refine .inr ⟨p.2, w.2, by simp [valD, q], ?_, d⟩
      exact valV_pos (by rw [e, q])
    · have q2 : ¬ w.1 = keyI k := fun z => q (keyI_inj (e.symm.trans z))
      have v1 : valD (p :: kvs) k = valD kvs k := by simp [valD, q]
      rw [v1, valV_neg q2]
      exact t.val k
theorem DnK.snoc {k : List Int} {v : V} {x : PyData} (d : Dn K G v x) : ∀ {kvs : KVs} {ws : List (List Key × V)}, DnK K G ws kvs → DnK K G (ws ++ [(keyI k, v)]) (kvs ++ [(k, x)])
  | [], ws, h => by rw [h.inv0]; exact .cons rfl d .nil
  | p :: kvs, ws, h => by
    obtain ⟨w, ws', rfl, e, d', t⟩ := h.inv
    exact .cons e d' (t.snoc d)
theorem DnK.repl {k : List Int} {v : V} {x : PyData} (d : Dn K G v x) : ∀ {kvs : KVs} {ws : List (List Key × V)}, DnK K G ws kvs → DnK K G (ws.map fun w => if w.1 = keyI k then (w.1, v) else w) (kvs.map fun p => if p.1 = k then (p.1, x) else p)
  | [], ws, h => by rw [h.inv0]; exact .nil
  | p :: kvs, ws, h => by
    obtain ⟨w, ws', rfl, e, d', t⟩ := h.inv
    rw [List.map_cons, List.map_cons]
    refine .cons ?_ ?_ (t.repl d)
    · by_cases q : p.1 = k
      · rw [if_pos (by rw [e, q]), if_pos q]; exact e
      · rw [if_neg fun z => q (keyI_inj (e.symm.trans z)), if_neg q]; exact e
    · by_cases q : p.1 = k
      · rw [if_pos (by rw [e, q]), if_pos q]; exact d
      · rw [if_neg fun z => q (keyI_inj (e.symm.trans z)), if_neg q]; exact d'
theorem DnK.any (k : List Int) : ∀ {kvs : KVs} {ws : List (List Key × V)}, DnK K G ws kvs → (ws.any fun w => decide (w.1 = keyI k)) = kvs.any fun p => decide (p.1 = k)
  | [], ws, h => by rw [h.inv0]; rfl
  | p :: kvs, ws, h => by
    obtain ⟨w, ws', rfl, e, _, t⟩ := h.inv
    rw [List.any_cons, List.any_cons, t.any k]
    congr 1
    rw [decide_eq_decide, e]
    exact ⟨keyI_inj, fun q => by rw [q]⟩
theorem DnK.put {k : List Int} {v : V} {x : PyData} {kvs : KVs} {ws : List (List Key × V)} (h : DnK K G ws kvs) (d : Dn K G v x) : DnK K G (putK ws (keyI k) v) (putD kvs k x) := by
  unfold putK putD
  rw [h.any k]
  split
  · exact h.repl d
  · exact h.snoc d
end
def keyOf (x : PyData) (k : List Int → Prop) (_u : Stop k) : Prop := ∃ ns : List Int, x = .tuple (ns.map PyData.int) ∧ ns ≠ [] ∧ k ns
omit [Tb] in
@[simp ↓] theorem keyOf_t (ns : List Int) (k : List Int → Prop) (u : Stop k) : keyOf (.tuple (ns.map PyData.int)) k u = (ns ≠ [] ∧ k ns) :=
  propext ⟨fun ⟨ms, e, h⟩ => by rw [map_int_inj (PyData.tuple.inj e)]; exact h, fun h => ⟨ns, rfl, h⟩⟩
def odC (o : Option Cell) (k : Addr → KVs → Prop) (_u : Stop k) : Prop := ∃ a kvs, o = some (.od a kvs) ∧ k a kvs
omit [Tb] in
@[simp ↓] theorem odC_od (a : Addr) (kvs : KVs) (k : Addr → KVs → Prop) (u : Stop k) : odC (some (.od a kvs)) k u = k a kvs :=
  propext ⟨fun ⟨b, ks, e, h⟩ => by cases e; exact h, fun h => ⟨a, kvs, rfl, h⟩⟩
def isOd (δ : DS) (i : Nat) : Prop := ∃ a kvs, δ[i]? = some (.od a kvs)
section
variable {X : Cx} {e f : Expr} {pos pos' px : Pos} {x : Str} {i : Nat}
def mD : DM := fun δ R => ∀ a, R (.od a []) δ
def wDIn (i : Nat) (w : DE) : DE := fun δ R => w δ fun o δ1 => use o δ1 fun x => keyOf x (fun k => odC δ1[i]? (fun _ kvs => R (.d (.bool (valD kvs k).isSome)) δ1) .mk) .mk
def wDNotIn (i : Nat) (w : DE) : DE := fun δ R => w δ fun o δ1 => use o δ1 fun x => keyOf x (fun k => odC δ1[i]? (fun _ kvs => R (.d (.bool (!(valD kvs k).isSome))) δ1) .mk) .mk
def wDGet (i : Nat) (w : DE) : DE := fun δ R => isOd δ i ∧ w δ fun o δ1 => use o δ1 fun x => keyOf x (fun k => odC δ1[i]? (fun _ kvs => onS (valD kvs k) (fun y => R (.d y) δ1) .mk) .mk) .mk
def wDPut (i : Nat) (wk wv : DE) : DTS := fun E δ => isOd δ i ∧ wv δ fun o δ1 => lk o δ1 fun x δ2 => wk δ2 fun o2 δ3 => use o2 δ3 fun y => keyOf y (fun k => odC δ3[i]? (fun a kvs => kvs.length ≤ 1000000 ∧ E.nx (δ3.set i (.od a (putD kvs k x)))) .mk) .mk
end
omit [Tb] in
@[simp ↓] theorem mD_ap (δ : DS) (R : Cell → DS → Prop) : mD δ R = ∀ a, R (.od a []) δ := rfl
omit [Tb] in
@[simp ↓] theorem wDIn_ap (i : Nat) (w : DE) (δ : DS) (R : Opd → DS → Prop) : wDIn i w δ R = (w δ fun o δ1 => use o δ1 fun x => keyOf x (fun k => odC δ1[i]? (fun _ kvs => R (.d (.bool (valD kvs k).isSome)) δ1) .mk) .mk) := rfl
omit [Tb] in
@[simp ↓] theorem wDNotIn_ap (i : Nat) (w : DE) (δ : DS) (R : Opd → DS → Prop) : wDNotIn i w δ R = (w δ fun o δ1 => use o δ1 fun x => keyOf x (fun k => odC δ1[i]? (fun _ kvs => R (.d (.bool (!(valD kvs k).isSome))) δ1) .mk) .mk) := rfl
omit [Tb] in
@[simp ↓] theorem wDGet_ap (i : Nat) (w : DE) (δ : DS) (R : Opd → DS → Prop) : wDGet i w δ R = (isOd δ i ∧ w δ fun o δ1 => use o δ1 fun x => keyOf x (fun k => odC δ1[i]? (fun _ kvs => onS (valD kvs k) (fun y => R (.d y) δ1) .mk) .mk) .mk) := rfl
omit [Tb] in
@[simp ↓] theorem wDPut_ap (i : Nat) (wk wv : DE) (E : DEnds) (δ : DS) : wDPut i wk wv E δ = (isOd δ i ∧ wv δ fun o δ1 => lk o δ1 fun x δ2 => wk δ2 fun o2 δ3 => use o2 δ3 fun y => keyOf y (fun k => odC δ3[i]? (fun a kvs => kvs.length ≤ 1000000 ∧ E.nx (δ3.set i (.od a (putD kvs k x)))) .mk) .mk) := rfl
omit [Tb] in
@[simp ↓] theorem isOd_od (a : Addr) (kvs : KVs) (δ : DS) (i : Nat) (h : δ[i]? = some (.od a kvs)) : isOd δ i = True := eq_true ⟨a, kvs, h⟩
omit [Tb] in
@[simp ↓] theorem varC_od (a : Addr) (kvs : KVs) (i : Nat) (k : Opd → Prop) (u : Stop k) : varC (some (.od a kvs)) i k u = k (.s i) := rfl
omit [Tb] in
@[simp] theorem sameIo_od (a : Addr) (xs : KVs) (cs : List Cell) (e : Cell) (δ : DS) : sameIo (.od a xs :: cs) (e :: δ) = ((∃ ys, e = .od a ys) ∧ sameIo cs δ) := rfl
omit [Tb] in
@[simp] theorem outC_od (a : Addr) (xs : KVs) (cs : List Cell) (e : Cell) (δ : DS) : outC (.od a xs :: cs) (e :: δ) = e :: outC cs δ := rfl
end DL
set_option Elab.async false
set_option linter.all false
set_option maxRecDepth 100000
set_option maxHeartbeats 4000000
namespace DL
open PySem PySem.Spec PyProof.Rows L2
variable [Tb]
def pLtT : P2 := fun x y R => match x, y with
  | .int i, .int j => R (.bool (decide (i < j)))
  | .tuple xs, .tuple ys => (noOL xs = true ∧ noOL ys = true) ∧ W.alike (.tuple xs) (.tuple ys) = true ∧ (PyData.tuple xs).depth ≤ 50 ∧ R (.bool (W.dataLt (.tuple xs) (.tuple ys)))
  | _, _ => False
section
variable {X : Cx}
end
omit [Tb] in
@[simp ↓] theorem pLtT_ii (i j : Int) (R : PyData → Prop) : pLtT (.int i) (.int j) R = R (.bool (decide (i < j))) := rfl
omit [Tb] in
@[simp ↓] theorem pLtT_tt (xs ys : List PyData) (R : PyData → Prop) : pLtT (.tuple xs) (.tuple ys) R = ((noOL xs = true ∧ noOL ys = true) ∧ W.alike (.tuple xs) (.tuple ys) = true ∧ (PyData.tuple xs).depth ≤ 50 ∧ R (.bool (W.dataLt (.tuple xs) (.tuple ys)))) := rfl
end DL
set_option Elab.async false
set_option linter.all false
set_option maxRecDepth 100000
set_option maxHeartbeats 4000000
namespace DL
open PySem PySem.Spec PyProof.Rows L2
variable [Tb]
section
variable {X : Cx} {e f : Expr} {pos pos' px : Pos} {x : Str} {i : Nat}
end
end DL
set_option Elab.async false
set_option linter.all false
set_option maxRecDepth 100000
set_option maxHeartbeats 4000000
namespace DL
open PySem PySem.Spec PyProof.Rows L2
variable [Tb]
section
variable {P : Program} {w : World} {K : PySem.W.Frag} {mg : Str → Option Value} {base : Heap}
end
end DL
set_option Elab.async false
set_option linter.all false
set_option maxRecDepth 100000
set_option maxHeartbeats 4000000
namespace DL
open PySem PySem.Spec PyProof.Rows L2
variable [Tb]
def wAugS (i : Nat) (wi : DE) (c : Int) : DTS := fun E δ => isOl δ i ∧ wi δ fun oj δ1 => use oj δ1 fun j => asI j (fun jn => olC δ1[i]? (fun a xs => 0 ≤ jn ∧ onS xs[jn.toNat]? (fun x => asI x (fun m => E.nx (δ1.set i (.ol a (xs.set jn.toNat (.int (m + c)))))) .mk) .mk) .mk) .mk
omit [Tb] in
@[simp ↓] theorem wAugS_ap (i : Nat) (wi : DE) (c : Int) (E : DEnds) (δ : DS) : wAugS i wi c E δ = (isOl δ i ∧ wi δ fun oj δ1 => use oj δ1 fun j => asI j (fun jn => olC δ1[i]? (fun a xs => 0 ≤ jn ∧ onS xs[jn.toNat]? (fun x => asI x (fun m => E.nx (δ1.set i (.ol a (xs.set jn.toNat (.int (m + c)))))) .mk) .mk) .mk) .mk) := rfl
section
variable {X : Cx} {e : Expr} {pos px p1 p2 : Pos} {x : Str} {i : Nat}
end
end DL
set_option Elab.async false
set_option linter.all false
set_option maxRecDepth 100000
set_option maxHeartbeats 4000000
namespace DL
open PySem PySem.Spec PyProof.Rows L2
variable [Tb]
def pLeT : P2 := fun x y R => match x, y with
  | .int i, .int j => R (.bool (decide (i ≤ j)))
  | .tuple xs, .tuple ys => (noOL xs = true ∧ noOL ys = true) ∧ W.alike (.tuple xs) (.tuple ys) = true ∧ (PyData.tuple xs).depth ≤ 50 ∧ R (.bool (!W.dataLt (.tuple ys) (.tuple xs)))
  | _, _ => False
section
variable {X : Cx}
end
omit [Tb] in
@[simp ↓] theorem pLeT_ii (i j : Int) (R : PyData → Prop) : pLeT (.int i) (.int j) R = R (.bool (decide (i ≤ j))) := rfl
omit [Tb] in
@[simp ↓] theorem pLeT_tt (xs ys : List PyData) (R : PyData → Prop) : pLeT (.tuple xs) (.tuple ys) R = ((noOL xs = true ∧ noOL ys = true) ∧ W.alike (.tuple xs) (.tuple ys) = true ∧ (PyData.tuple xs).depth ≤ 50 ∧ R (.bool (!W.dataLt (.tuple ys) (.tuple xs)))) := rfl
end DL
set_option Elab.async false
set_option linter.all false
set_option maxRecDepth 100000
set_option maxHeartbeats 4000000
namespace DL
open PySem PySem.Spec PyProof.Rows L2
variable [Tb]
def wIfL (t : DT) (la lb : DL) : DL := fun δ R => t δ fun k δ1 => if k = true then la δ1 R else lb δ1 R
omit [Tb] in
@[simp ↓] theorem wIfL_ap (t : DT) (la lb : DL) (δ : DS) (R : List PyData → DS → Prop) : wIfL t la lb δ R = (t δ fun k δ1 => if k = true then la δ1 R else lb δ1 R) := rfl
end DL
set_option Elab.async false
set_option linter.all false
set_option maxRecDepth 100000
set_option maxHeartbeats 4000000
namespace DL
open PySem PySem.Spec PyProof.Rows L2
variable [Tb]
open PySem.SeqAt
open AutoSeq1 (wpAny_loadPart')
open MeetsSeq
def IsD (h : Heap) (a : Addr) : Prop := ∃ o es n, h.get? a = some o ∧ o.cls = .type "dict" ∧ o.data = .dict es n
section
variable {A : Around} {s : Shared} {l b : Addr} {es : Array DictEntry} {its : Array Value} {n m : Nat} {dd de : Option Addr} {sl sm : Array (Option Value)}
abbrev DictAt (h : Heap) (l : Addr) (es : Array DictEntry) (n : Nat) (dd : Option Addr) (sl : Array (Option Value)) : Prop := h.get? l = some { cls := .type "dict", dict := dd, data := .dict es n, slots := sl }
abbrev RowAt (T : String) (h : Heap) (b : Addr) (its : Array Value) (m : Nat) (de : Option Addr) (sm : Array (Option Value)) : Prop := h.get? b = some { cls := .type T, dict := de, data := .seq its m, slots := sm }
theorem away_none : Meets (Builtin.«dict.__eq__» ⟨[.ref l, .none], []⟩) (fun _ R z => DictAt z.heap l es n dd sl ∧ R (.ok (.ret .notImplemented)) z) := by
  refine .of_wp fun prog w A R ⟨hp, gs, dr, tk, os⟩ h => ?_
  have away := F.sub_NoneType_dict
  obtain ⟨at_l, h⟩ := h
  wp_walk using wpAny_loadPart' at_l
  exact ⟨_, rfl, h⟩
theorem away_bool (x : Bool) : Meets (Builtin.«dict.__eq__» ⟨[.ref l, .bool x], []⟩) (fun _ R z => DictAt z.heap l es n dd sl ∧ R (.ok (.ret .notImplemented)) z) := by
  refine .of_wp fun prog w A R ⟨hp, gs, dr, tk, os⟩ h => ?_
  have away := F.sub_bool_dict
  obtain ⟨at_l, h⟩ := h
  wp_walk using wpAny_loadPart' at_l
  exact ⟨_, rfl, h⟩
theorem away_int (x : Int) (u : Tok) : Meets (Builtin.«dict.__eq__» ⟨[.ref l, .int x u], []⟩) (fun _ R z => DictAt z.heap l es n dd sl ∧ R (.ok (.ret .notImplemented)) z) := by
  refine .of_wp fun prog w A R ⟨hp, gs, dr, tk, os⟩ h => ?_
  have away := F.sub_int_dict
  obtain ⟨at_l, h⟩ := h
  wp_walk using wpAny_loadPart' at_l
  exact ⟨_, rfl, h⟩
theorem away_str (x : Str) (u : Tok) : Meets (Builtin.«dict.__eq__» ⟨[.ref l, .str x u], []⟩) (fun _ R z => DictAt z.heap l es n dd sl ∧ R (.ok (.ret .notImplemented)) z) := by
  refine .of_wp fun prog w A R ⟨hp, gs, dr, tk, os⟩ h => ?_
  have away := F.sub_str_dict
  obtain ⟨at_l, h⟩ := h
  wp_walk using wpAny_loadPart' at_l
  exact ⟨_, rfl, h⟩
theorem bool_away (x : Bool) : Meets (Builtin.«int.__eq__» ⟨[.bool x, .ref l], []⟩) (fun _ R z => DictAt z.heap l es n dd sl ∧ R (.ok (.ret .notImplemented)) z) := by
  refine .of_wp fun prog w A R ⟨hp, gs, dr, tk, os⟩ h => ?_
  obtain ⟨at_l, h⟩ := h
  wp_walk using wpAny_loadPart' at_l, wpAny_load at_l
  exact ⟨_, rfl, h⟩
theorem int_away (x : Int) (u : Tok) : Meets (Builtin.«int.__eq__» ⟨[.int x u, .ref l], []⟩) (fun _ R z => DictAt z.heap l es n dd sl ∧ R (.ok (.ret .notImplemented)) z) := by
  refine .of_wp fun prog w A R ⟨hp, gs, dr, tk, os⟩ h => ?_
  obtain ⟨at_l, h⟩ := h
  wp_walk using wpAny_loadPart' at_l, wpAny_load at_l
  exact ⟨_, rfl, h⟩
theorem str_away (x : Str) (u : Tok) : Meets (Builtin.«str.__eq__» ⟨[.str x u, .ref l], []⟩) (fun _ R z => DictAt z.heap l es n dd sl ∧ R (.ok (.ret .notImplemented)) z) := by
  refine .of_wp fun prog w A R ⟨hp, gs, dr, tk, os⟩ h => ?_
  obtain ⟨at_l, h⟩ := h
  wp_walk using wpAny_loadPart' at_l, wpAny_load at_l
  exact ⟨_, rfl, h⟩
theorem away_list : Meets (Builtin.«dict.__eq__» ⟨[.ref l, .ref b], []⟩) (fun _ R z => DictAt z.heap l es n dd sl ∧ RowAt "list" z.heap b its m de sm ∧ R (.ok (.ret .notImplemented)) z) := by
  refine .of_wp fun prog w A R ⟨hp, gs, dr, tk, os⟩ h => ?_
  have away := F.sub_list_dict
  obtain ⟨at_l, at_b, h⟩ := h
  wp_walk using wpAny_loadPart' at_l, wpAny_loadPart' at_b
  exact ⟨_, rfl, h⟩
theorem list_away : Meets (Builtin.«list.__eq__» ⟨[.ref b, .ref l], []⟩) (fun _ R z => DictAt z.heap l es n dd sl ∧ RowAt "list" z.heap b its m de sm ∧ R (.ok (.ret .notImplemented)) z) := by
  refine .of_wp fun prog w A R ⟨hp, gs, dr, tk, os⟩ h => ?_
  have away := F.sub_dict_list
  obtain ⟨at_l, at_b, h⟩ := h
  wp_walk using wpAny_loadPart' at_b, wpAny_loadPart' at_l
  exact ⟨_, rfl, h⟩
theorem away_tuple : Meets (Builtin.«dict.__eq__» ⟨[.ref l, .ref b], []⟩) (fun _ R z => DictAt z.heap l es n dd sl ∧ RowAt "tuple" z.heap b its m de sm ∧ R (.ok (.ret .notImplemented)) z) := by
  refine .of_wp fun prog w A R ⟨hp, gs, dr, tk, os⟩ h => ?_
  have away := F.sub_tuple_dict
  obtain ⟨at_l, at_b, h⟩ := h
  wp_walk using wpAny_loadPart' at_l, wpAny_loadPart' at_b
  exact ⟨_, rfl, h⟩
theorem tuple_away : Meets (Builtin.«tuple.__eq__» ⟨[.ref b, .ref l], []⟩) (fun _ R z => DictAt z.heap l es n dd sl ∧ RowAt "tuple" z.heap b its m de sm ∧ R (.ok (.ret .notImplemented)) z) := by
  refine .of_wp fun prog w A R ⟨hp, gs, dr, tk, os⟩ h => ?_
  have away := F.sub_dict_tuple
  obtain ⟨at_l, at_b, h⟩ := h
  wp_walk using wpAny_loadPart' at_b, wpAny_loadPart' at_l
  exact ⟨_, rfl, h⟩
theorem differs {v : Value} {T id : String} (at_l : DictAt s.heap l es n dd sl) (ty : s.TypeIs v T) (ne : (Value.type T != Value.type "dict") = true) (sub : isSubtype (.type "dict") (.type T) = pure false) (slot : Slot T (cmpInfo .Eq).2.1 id) (room : A.units < cLine)
    (mine : ∀ (prog : Program) (w : World) (E Q : Value → Shared → Prop), Q .notImplemented s → wpAny (model prog w) A (call (.builtin id) [v, .ref l]) Q E s)
    (dicts : ∀ (prog : Program) (w : World) (E Q : Value → Shared → Prop), Q .notImplemented s → wpAny (model prog w) A (call (.builtin "dict.__eq__") [.ref l, v]) Q E s)
    (same : ∀ (prog : Program) (w : World) (E : Value → Shared → Prop) (Q : Bool → Shared → Prop), Q false s → wpAny (model prog w) A (isSame v (.ref l)) Q E s) : RcAt A s v (.ref l) false :=
  fun prog w E Q h => by
    exact rc_eq_decline_or (k := false) ty ⟨_, at_l, rfl⟩ ne sub slot F.slot_dict_eq_refl (mine prog w E) (dicts prog w E) (same prog w E) (.inr room) h
theorem differs_flat {v : Value} (flat : v = .none ∨ (∃ x, v = .bool x) ∨ (∃ x u, v = .int x u) ∨ ∃ x u, v = .str x u) (rc : RcAt A s v (.ref l) false) : EqAt A s v (.ref l) false := fun prog w E Q h => by
  have go : wpAny (model prog w) A (richCompare .Eq v (.ref l)) (fun r z => wpAny (model prog w) A (truthOfDropped r) Q E z) E s := rc prog w E _ (wpAny_truthy_bool h)
  delta eqBool
  rcases flat with rfl | ⟨_, rfl⟩ | ⟨_, _, rfl⟩ | ⟨_, _, rfl⟩ <;> exact wpAny_holding (wpAny_ite_split (fun e => absurd (eq_of_beq e) nofun) fun _ => wpAny_bind go)
theorem IsD.at {h : Heap} (d : IsD h l) : ∃ dd es n sl, DictAt h l es n dd sl := by
  obtain ⟨⟨_, dd, _, sl⟩, es, n, at_l, rfl, rfl⟩ := d
  exact ⟨dd, es, n, sl, at_l⟩
theorem dict_says {v : Value} {x : Shared} (at_l : DictAt s.heap l es n dd sl) {prog : Program} {w : World} {E Q : Value → Shared → Prop} {S : PySem.Spec} (own : Meets (Builtin.«dict.__eq__» ⟨[.ref l, v], []⟩) S) (h : S A (wants Q E) s) :
    wpAny (model prog w) A (call (.builtin "dict.__eq__") [.ref l, v]) Q E s :=
  call_meets F.slot_dict_eq_refl ⟨_, at_l, rfl⟩ F.entry_dict_eq (F.args_dict_eq_2 _ _) own h
theorem eq_NoneType_dict (d : IsD s.heap l) (room : A.units < cLine) : EqAt A s .none (.ref l) false := by
  obtain ⟨dd, es, n, sl, at_l⟩ := d.at
  exact differs_flat (.inl rfl) (differs at_l (T := "NoneType") rfl (by decide) F.sub_dict_NoneType F.slot_NoneType_eq room (fun _ _ _ _ q => call_gives F.slot_NoneType_eq rfl F.entry_NoneType_eq (F.args_NoneType_eq_2 _ _) (NoneType___eq___none_ref_0 l) q)
    (fun _ _ _ _ q => dict_says (x := s) at_l away_none ⟨at_l, q⟩) fun _ _ _ _ q => wpAny_of_eq (rfl : isSame .none (.ref l) = pure false) q)
theorem eq_bool_dict (x : Bool) (d : IsD s.heap l) (room : A.units < cLine) : EqAt A s (.bool x) (.ref l) false := by
  obtain ⟨dd, es, n, sl, at_l⟩ := d.at
  exact differs_flat (.inr (.inl ⟨_, rfl⟩)) (differs at_l (T := "bool") rfl (by decide) F.sub_dict_bool F.slot_bool_eq room (fun _ _ _ _ q => call_meets F.slot_bool_eq rfl F.entry_int_eq (F.args_int_eq_2 _ _) (bool_away x) ⟨at_l, q⟩)
    (fun _ _ _ _ q => dict_says (x := s) at_l (away_bool x) ⟨at_l, q⟩) fun _ _ _ _ q => wpAny_of_eq (rfl : isSame (.bool x) (.ref l) = pure false) q)
theorem eq_int_dict (x : Int) (u : Tok) (d : IsD s.heap l) (room : A.units < cLine) : EqAt A s (.int x u) (.ref l) false := by
  obtain ⟨dd, es, n, sl, at_l⟩ := d.at
  exact differs_flat (.inr (.inr (.inl ⟨_, _, rfl⟩))) (differs at_l (typeIs_int s x u) (by decide) F.sub_dict_int F.slot_int_eq room (fun _ _ _ _ q => call_meets F.slot_int_eq (typeIs_int s x u) F.entry_int_eq (F.args_int_eq_2 _ _) (int_away x u) ⟨at_l, q⟩)
    (fun _ _ _ _ q => dict_says (x := s) at_l (away_int x u) ⟨at_l, q⟩) fun _ _ _ _ q => wpAny_of_eq (rfl : isSame (.int x u) (.ref l) = pure false) q)
theorem eq_str_dict (x : Str) (u : Tok) (d : IsD s.heap l) (room : A.units < cLine) : EqAt A s (.str x u) (.ref l) false := by
  obtain ⟨dd, es, n, sl, at_l⟩ := d.at
  exact differs_flat (.inr (.inr (.inr ⟨_, _, rfl⟩))) (differs at_l (typeIs_str s x u) (by decide) F.sub_dict_str F.slot_str_eq room (fun _ _ _ _ q => call_meets F.slot_str_eq (typeIs_str s x u) F.entry_str_eq (F.args_str_eq_2 _ _) (str_away x u) ⟨at_l, q⟩)
    (fun _ _ _ _ q => dict_says (x := s) at_l (away_str x u) ⟨at_l, q⟩) fun _ _ _ _ q => wpAny_of_eq (rfl : isSame (.str x u) (.ref l) = pure false) q)
theorem elsewhere {T : String} (t : T ≠ "dict") (at_b : RowAt T s.heap b its m de sm) (at_l : DictAt s.heap l es n dd sl) : b ≠ l := by
  rintro rfl
  have e := at_b.symm.trans at_l
  simp only [Option.some.injEq, Obj.mk.injEq, Value.type.injEq] at e
  exact t e.1
theorem eq_list_dict (p : s.heap.IsList b its) (d : IsD s.heap l) (room : A.units < cLine) : EqAt A s (.ref b) (.ref l) false := by
  obtain ⟨dd, es, n, sl, at_l⟩ := d.at
  obtain ⟨⟨_, de, _, sm⟩, at_b, rfl, m, rfl⟩ := p
  have apart := elsewhere (T := "list") (by decide) at_b at_l
  exact .of_refs apart (differs at_l ⟨_, at_b, rfl⟩ (by decide) F.sub_dict_list F.slot_list_eq room (fun _ _ _ _ q => call_meets F.slot_list_eq ⟨_, at_b, rfl⟩ F.entry_list_eq (F.args_list_eq_2 _ _) list_away ⟨at_l, at_b, q⟩)
    (fun _ _ _ _ q => dict_says (x := s) at_l away_list ⟨at_l, at_b, q⟩) fun _ _ _ _ q => wpAny_isSame_ref_other' apart at_b at_l (by simp) q)
theorem eq_tuple_dict (p : s.heap.IsTuple b its) (d : IsD s.heap l) (room : A.units < cLine) : EqAt A s (.ref b) (.ref l) false := by
  obtain ⟨dd, es, n, sl, at_l⟩ := d.at
  obtain ⟨⟨_, de, _, sm⟩, at_b, rfl, m, rfl⟩ := p
  have apart := elsewhere (T := "tuple") (by decide) at_b at_l
  exact .of_refs apart (differs at_l ⟨_, at_b, rfl⟩ (by decide) F.sub_dict_tuple F.slot_tuple_eq room (fun _ _ _ _ q => call_meets F.slot_tuple_eq ⟨_, at_b, rfl⟩ F.entry_tuple_eq (F.args_tuple_eq_2 _ _) tuple_away ⟨at_l, at_b, q⟩)
    (fun _ _ _ _ q => dict_says (x := s) at_l away_tuple ⟨at_l, at_b, q⟩) fun _ _ _ _ q => wpAny_isSame_ref_other' apart at_b at_l (by simp) q)
end
end DL
set_option Elab.async false
set_option linter.all false
set_option maxRecDepth 100000
set_option maxHeartbeats 4000000
namespace DL
open PySem PySem.Spec PyProof.Rows L2
variable [Tb]
open PySem.SeqAt
theorem reads_list {h : Heap} {v : Value} {xs : List PyData} {as : List Addr} (r : Reads h v (.list xs) as) : ∃ a vs bs, v = .ref a ∧ h.IsList a vs ∧ vs.size = xs.length ∧ ReadsAll h vs.toList xs bs := by
  cases r with
  | list at_a cl dt rs => exact ⟨_, _, _, rfl, ⟨_, at_a, cl, _, dt⟩, (Array.length_toList).symm.trans (ReadsAll.length _ _ _ rs), rs⟩
theorem reads_tuple {h : Heap} {v : Value} {xs : List PyData} {as : List Addr} (r : Reads h v (.tuple xs) as) : ∃ a vs bs, v = .ref a ∧ h.IsTuple a vs ∧ vs.size = xs.length ∧ ReadsAll h vs.toList xs bs := by
  cases r with
  | tuple at_a cl dt rs => exact ⟨_, _, _, rfl, ⟨_, at_a, cl, _, dt⟩, (Array.length_toList).symm.trans (ReadsAll.length _ _ _ rs), rs⟩
theorem eqAt_kinds {A : Around} {s : Shared} {a b : Value} {as bs : List Addr} (da db : PyData) (ra : Reads s.heap a da as) (rb : Reads s.heap b db bs) (lay : da.canLay0 = true) (room : A.units < cLine) (new : ¬ db.canLay0 = true)
    (other : (∀ xs ys, ¬ (da = .list xs ∧ db = .list ys)) ∧ ∀ xs ys, ¬ (da = .tuple xs ∧ db = .tuple ys)) : EqAt A s a b (PyData.eqv da db) := by
  cases rb with
  | none => exact absurd rfl new
  | bool => exact absurd rfl new
  | int => exact absurd rfl new
  | str y u => cases ra with
    | none => exact .none_str y u
    | bool x => exact .bool_str x y u
    | int x t => exact .int_str x t y u
    | str x t => exact .str_str x t y u
    | list h1 h2 h3 => exact .list_str y u ⟨_, h1, h2, _, h3⟩ room
    | tuple h1 h2 h3 => exact .tuple_str y u ⟨_, h1, h2, _, h3⟩ room
    | dict => exact absurd lay Bool.false_ne_true
  | list k1 k2 k3 _ => cases ra with
    | none => exact EqAt.none_list ⟨_, k1, k2, _, k3⟩ room
    | bool x => exact EqAt.bool_list x ⟨_, k1, k2, _, k3⟩ room
    | int x t => exact EqAt.int_list x t ⟨_, k1, k2, _, k3⟩ room
    | str x t => exact EqAt.str_list x t ⟨_, k1, k2, _, k3⟩ room
    | tuple h1 h2 h3 => exact EqAt.tuple_list ⟨_, h1, h2, _, h3⟩ ⟨_, k1, k2, _, k3⟩ room
    | list => exact absurd ⟨rfl, rfl⟩ (other.1 _ _)
    | dict => exact absurd lay Bool.false_ne_true
  | tuple k1 k2 k3 _ => cases ra with
    | none => exact EqAt.none_tuple ⟨_, k1, k2, _, k3⟩ room
    | bool x => exact EqAt.bool_tuple x ⟨_, k1, k2, _, k3⟩ room
    | int x t => exact EqAt.int_tuple x t ⟨_, k1, k2, _, k3⟩ room
    | str x t => exact EqAt.str_tuple x t ⟨_, k1, k2, _, k3⟩ room
    | list h1 h2 h3 => exact EqAt.list_tuple ⟨_, h1, h2, _, h3⟩ ⟨_, k1, k2, _, k3⟩ room
    | tuple => exact absurd ⟨rfl, rfl⟩ (other.2 _ _)
    | dict => exact absurd lay Bool.false_ne_true
  | dict k1 k2 k3 => cases ra with
    | none => exact eq_NoneType_dict ⟨_, _, _, k1, k2, k3⟩ room
    | bool x => exact eq_bool_dict x ⟨_, _, _, k1, k2, k3⟩ room
    | int x t => exact eq_int_dict x t ⟨_, _, _, k1, k2, k3⟩ room
    | str x t => exact eq_str_dict x t ⟨_, _, _, k1, k2, k3⟩ room
    | list h1 h2 h3 => exact eq_list_dict ⟨_, h1, h2, _, h3⟩ ⟨_, _, _, k1, k2, k3⟩ room
    | tuple h1 h2 h3 => exact eq_tuple_dict ⟨_, h1, h2, _, h3⟩ ⟨_, _, _, k1, k2, k3⟩ room
    | dict => exact absurd lay Bool.false_ne_true
def Pairwise2 (A : Around) (s : Shared) (vs us : Array Value) (xs ys : List PyData) : Prop := ∀ j (h1 : j < vs.size) (h2 : j < us.size), EqAt A s vs[j] us[j] (pairEq xs ys j)
theorem eqAt_lists {A : Around} {s : Shared} {l l' : Addr} {vs us : Array Value} {xs ys : List PyData} (apart : l ≠ l') (p : s.heap.IsList l vs) (p' : s.heap.IsList l' us) (n : vs.size = xs.length) (n' : us.size = ys.length) (room : A.units < cLine)
    (each : Pairwise2 A.in1 s vs us xs ys) : EqAt A s (.ref l) (.ref l') (PyData.eqvAll xs ys) := by
  refine EqAt.of_refs apart ?_
  by_cases same : xs.length = ys.length
  · have go := RcAt.lists p p' (n.trans (same.trans n'.symm)) room each
    rwa [n, eqvAll_same_length same] at go
  · rw [eqvAll_other_length same]
    exact RcAt.lists_lengths p p' (by rw [n, n']; simpa using same) room
theorem eqAt_tuples {A : Around} {s : Shared} {l l' : Addr} {vs us : Array Value} {xs ys : List PyData} (apart : l ≠ l') (p : s.heap.IsTuple l vs) (p' : s.heap.IsTuple l' us) (n : vs.size = xs.length) (n' : us.size = ys.length) (room : A.units < cLine)
    (each : Pairwise2 A.in1 s vs us xs ys) : EqAt A s (.ref l) (.ref l') (PyData.eqvAll xs ys) := by
  have go := RcAt.tuples p p' room each
  rw [n, n', eqvAll_eq] at go
  exact EqAt.of_refs apart go
theorem eqAt_rest {A : Around} {s : Shared} {a b : Value} {as bs : List Addr} {da db : PyData} (ra : Reads s.heap a da as) (rb : Reads s.heap b db bs) (lay : da.canLay0 = true) (room : A.units + da.depth < cLine)
    (other : (∀ xs ys, ¬ (da = .list xs ∧ db = .list ys)) ∧ ∀ xs ys, ¬ (da = .tuple xs ∧ db = .tuple ys)) : EqAt A s a b (PyData.eqv da db) := by
  by_cases told : db.canLay0 = true
  · exact eqAt_reads da db A s a b as bs ra rb lay told (by omega)
  · exact eqAt_kinds da db ra rb lay (by omega) told other
mutual
theorem eqAt_any : ∀ (da db : PyData) {A : Around} {s : Shared} {a b : Value} {as bs : List Addr}, Reads s.heap a da as → Reads s.heap b db bs → da.canLay0 = true → A.units + da.depth < cLine → EqAt A s a b (PyData.eqv da db)
  | .list xs, db, A, s, a, b, as, bs, ra, rb, lay, room => by
    rcases Classical.em (∃ ys, db = .list ys) with ⟨ys, rfl⟩ | no
    · obtain ⟨l, vs, _, rfl, p, n, rs⟩ := reads_list ra
      obtain ⟨l', us, _, rfl, p', n', rs'⟩ := reads_list rb
      by_cases e : l = l'
      · subst e
        cases Reads.unique (.list xs) (.list ys) _ _ _ lay ra rb
        rw [show PyData.eqv (.list xs) (.list xs) = true from eqvAll_refl xs lay]
        exact EqAt.same _
      · rw [PyData.depth] at room
        exact eqAt_lists e p p' n n' (by omega) fun j h1 h2 => eqAt_anys xs ys rs rs' lay (show A.units + 1 + _ < _ by omega) j h1 h2
    · exact eqAt_rest ra rb lay room ⟨fun _ ys z => no ⟨ys, z.2⟩, fun _ _ z => nomatch z.1⟩
  | .tuple xs, db, A, s, a, b, as, bs, ra, rb, lay, room => by
    rcases Classical.em (∃ ys, db = .tuple ys) with ⟨ys, rfl⟩ | no
    · obtain ⟨l, vs, _, rfl, p, n, rs⟩ := reads_tuple ra
      obtain ⟨l', us, _, rfl, p', n', rs'⟩ := reads_tuple rb
      by_cases e : l = l'
      · subst e
        cases Reads.unique (.tuple xs) (.tuple ys) _ _ _ lay ra rb
        rw [show PyData.eqv (.tuple xs) (.tuple xs) = true from eqvAll_refl xs lay]
        exact EqAt.same _
      · rw [PyData.depth] at room
        exact eqAt_tuples e p p' n n' (by omega) fun j h1 h2 => eqAt_anys xs ys rs rs' lay (show A.units + 1 + _ < _ by omega) j h1 h2
    · exact eqAt_rest ra rb lay room ⟨(fun _ _ z => nomatch z.1), fun _ ys z => no ⟨ys, z.2⟩⟩
  | .none, _, _, _, _, _, _, _, ra, rb, lay, room => eqAt_rest ra rb lay room ⟨(fun _ _ z => nomatch z.1), (fun _ _ z => nomatch z.1)⟩
  | .bool _, _, _, _, _, _, _, _, ra, rb, lay, room => eqAt_rest ra rb lay room ⟨(fun _ _ z => nomatch z.1), (fun _ _ z => nomatch z.1)⟩
  | .int _, _, _, _, _, _, _, _, ra, rb, lay, room => eqAt_rest ra rb lay room ⟨(fun _ _ z => nomatch z.1), (fun _ _ z => nomatch z.1)⟩
  | .str _, _, _, _, _, _, _, _, ra, rb, lay, room => eqAt_rest ra rb lay room ⟨(fun _ _ z => nomatch z.1), (fun _ _ z => nomatch z.1)⟩
  | .dict _, _, _, _, _, _, _, _, _, _, lay, _ => nomatch lay
theorem eqAt_anys : ∀ (xs ys : List PyData) {A : Around} {s : Shared} {vs us : List Value} {as bs : List Addr}, ReadsAll s.heap vs xs as → ReadsAll s.heap us ys bs → PyData.canLayAll0 xs = true → A.units + PyData.depthAll xs < cLine →
    ∀ j (h1 : j < vs.length) (h2 : j < us.length), EqAt A s vs[j] us[j] (pairEq xs ys j)
  | [], _, _, _, _, _, _, _, .nil, _, _, _, _, h1, _ => nomatch h1
  | _ :: _, [], _, _, _, _, _, _, _, .nil, _, _, _, _, h2 => nomatch h2
  | x :: xs, y :: ys, _, _, _, _, _, _, .cons r rs, .cons r' rs', lay, room, j, h1, h2 => by
    rw [PyData.canLayAll0, Bool.and_eq_true] at lay
    rw [PyData.depthAll] at room
    cases j with
    | zero => exact eqAt_any x y r r' lay.1 (by omega)
    | succ j => exact eqAt_anys xs ys rs rs' lay.2 (by omega) j (Nat.lt_of_succ_lt_succ h1) (Nat.lt_of_succ_lt_succ h2)
end
def pInX : P2 := fun x y R => match y with
  | .list ds => noO x = true ∧ SeqAt.shaped (.list ds) = true ∧ R (.bool (ds.any fun z => PyData.eqv z x))
  | .tuple ds => noO x = true ∧ SeqAt.shaped (.tuple ds) = true ∧ R (.bool (ds.any fun z => PyData.eqv z x))
  | _ => False
def pEqE : P2 := fun x y R => match x, y with
  | .tuple xs, .tuple [] => noOL xs = true ∧ R (.bool xs.isEmpty)
  | .list xs, .list [] => noOL xs = true ∧ R (.bool xs.isEmpty)
  | _, _ => False
def pNeE : P2 := fun x y R => match x, y with
  | .tuple xs, .tuple [] => noOL xs = true ∧ R (.bool (!xs.isEmpty))
  | .list xs, .list [] => noOL xs = true ∧ R (.bool (!xs.isEmpty))
  | _, _ => False
omit [Tb] in
@[simp ↓] theorem pEqE_t (xs : List PyData) (R : PyData → Prop) : pEqE (.tuple xs) (.tuple []) R = (noOL xs = true ∧ R (.bool xs.isEmpty)) := rfl
omit [Tb] in
@[simp ↓] theorem pEqE_l (xs : List PyData) (R : PyData → Prop) : pEqE (.list xs) (.list []) R = (noOL xs = true ∧ R (.bool xs.isEmpty)) := rfl
omit [Tb] in
@[simp ↓] theorem pNeE_t (xs : List PyData) (R : PyData → Prop) : pNeE (.tuple xs) (.tuple []) R = (noOL xs = true ∧ R (.bool (!xs.isEmpty))) := rfl
omit [Tb] in
@[simp ↓] theorem pNeE_l (xs : List PyData) (R : PyData → Prop) : pNeE (.list xs) (.list []) R = (noOL xs = true ∧ R (.bool (!xs.isEmpty))) := rfl
omit [Tb] in
@[simp ↓] theorem pInX_l (x : PyData) (ds : List PyData) (R : PyData → Prop) : pInX x (.list ds) R = (noO x = true ∧ SeqAt.shaped (.list ds) = true ∧ R (.bool (ds.any fun z => PyData.eqv z x))) := rfl
omit [Tb] in
@[simp ↓] theorem pInX_t (x : PyData) (ds : List PyData) (R : PyData → Prop) : pInX x (.tuple ds) R = (noO x = true ∧ SeqAt.shaped (.tuple ds) = true ∧ R (.bool (ds.any fun z => PyData.eqv z x))) := rfl
section
variable {X : Cx}
end
end DL
set_option Elab.async false
set_option linter.all false
set_option maxRecDepth 100000
set_option maxHeartbeats 4000000
namespace DL
open PySem PySem.Spec PyProof.Rows L2
variable [Tb]
def stC (x : PyData) (k : Str → Prop) : Prop := match x with
  | .str z => k z
  | _ => False
omit [Tb] in
@[simp ↓] theorem stC_s (z : Str) (k : Str → Prop) : stC (.str z) k = k z := rfl
def wUpper (w : DE) : DE := fun δ R => w δ fun o δ1 => use o δ1 fun x => stC x fun z => z.length ≤ 1000000 ∧ R (.d (.str (Txt.upper z))) δ1
omit [Tb] in
@[simp ↓] theorem wUpper_ap (w : DE) (δ : DS) (R : Opd → DS → Prop) : wUpper w δ R = (w δ fun o δ1 => use o δ1 fun x => stC x fun z => z.length ≤ 1000000 ∧ R (.d (.str (Txt.upper z))) δ1) := rfl
section
variable {X : Cx}
end
end DL
set_option Elab.async false
set_option linter.all false
set_option maxRecDepth 100000
set_option maxHeartbeats 4000000
namespace DL
open PySem PySem.Spec PyProof.Rows L2
variable [Tb]
section
variable {X : Cx}
def rev0D (x : PyData) (k : PyData → Prop) : Prop := match x with
  | .tuple ds => 1 ≤ ds.length ∧ k (.tuple (ds.drop 1).reverse)
  | _ => False
omit [Tb] in
@[simp ↓] theorem rev0D_t (ds : List PyData) (k : PyData → Prop) : rev0D (.tuple ds) k = (1 ≤ ds.length ∧ k (.tuple (ds.drop 1).reverse)) := rfl
def wRev0 (w : DE) : DE := fun δ R => w δ fun o δ1 => use o δ1 fun x => rev0D x fun z => R (.d z) δ1
omit [Tb] in
@[simp ↓] theorem wRev0_ap (w : DE) (δ : DS) (R : Opd → DS → Prop) : wRev0 w δ R = (w δ fun o δ1 => use o δ1 fun x => rev0D x fun z => R (.d z) δ1) := rfl
end
def gTL (r : DTGs) : DTG := fun x δ R => match x with
  | .list xs => r xs δ R
  | _ => False
omit [Tb] in
@[simp ↓] theorem gTL_l (r : DTGs) (xs : List PyData) (δ : DS) (R : DS → Prop) : gTL r (.list xs) δ R = r xs δ R := rfl
section
variable {X : Cx} {pos : Pos}
end
section
variable {X : Cx}
end
end DL
set_option Elab.async false
set_option linter.all false
set_option maxRecDepth 100000
set_option maxHeartbeats 4000000
namespace DL
open PySem PySem.Spec PyProof.Rows L2
variable [Tb]
def strsC (x : PyData) (k : List Str → Prop) (_u : Stop k) : Prop := ∃ ys : List Str, x = .list (ys.map PyData.str) ∧ k ys
theorem strs_one {a b : List Str} (h : a.map PyData.str = b.map PyData.str) : a = b :=
  List.map_inj_right (f := PyData.str) (fun _ _ e => PyData.str.inj e) |>.mp h
omit [Tb] in
@[simp ↓] theorem strsC_l (ys : List Str) (k : List Str → Prop) (u : Stop k) : strsC (.list (ys.map PyData.str)) k u = k ys :=
  propext ⟨fun ⟨_, e, h⟩ => strs_one (PyData.list.inj e) ▸ h, fun h => ⟨ys, rfl, h⟩⟩
def wJoinC (a : Str) (w : DE) : DE := fun δ R => w δ fun o δ1 => use o δ1 fun x => strsC x (fun ys => (ys.map (·.length)).sum + ys.length * a.length ≤ 1000000 ∧ R (.d (.str (Txt.join a ys))) δ1) .mk
omit [Tb] in
@[simp ↓] theorem wJoinC_ap (a : Str) (w : DE) (δ : DS) (R : Opd → DS → Prop) : wJoinC a w δ R = (w δ fun o δ1 => use o δ1 fun x => strsC x (fun ys => (ys.map (·.length)).sum + ys.length * a.length ≤ 1000000 ∧ R (.d (.str (Txt.join a ys))) δ1) .mk) := rfl
section
variable {X : Cx}
end
end DL
set_option Elab.async false
set_option linter.all false
set_option maxRecDepth 100000
set_option maxHeartbeats 4000000
namespace DL
open PySem PySem.Spec PyProof.Rows L2
variable [Tb]
def wSplitC (b : Str) (w : DE) : DE := fun δ R => w δ fun o δ1 => use o δ1 fun x => stC x fun z => z.length ≤ 1000000 ∧ R (.d (.list ((Txt.split z b).map PyData.str))) δ1
omit [Tb] in
@[simp ↓] theorem wSplitC_ap (b : Str) (w : DE) (δ : DS) (R : Opd → DS → Prop) : wSplitC b w δ R = (w δ fun o δ1 => use o δ1 fun x => stC x fun z => z.length ≤ 1000000 ∧ R (.d (.list ((Txt.split z b).map PyData.str))) δ1) := rfl
section
variable {X : Cx}
end
end DL
set_option Elab.async false
set_option linter.all false
set_option maxRecDepth 100000
set_option maxHeartbeats 4000000
namespace DL
open PySem PySem.Spec PyProof.Rows L2
variable [Tb]
def signs (z : Str) : List PyData := z.cps.toList.map fun c => .str ⟨#[c]⟩
def iStrD (w : DE) : DL := fun δ R => w δ fun o δ1 => use o δ1 fun x => stC x fun z => z.length ≤ 1000000 ∧ R (signs z) δ1
omit [Tb] in
@[simp ↓] theorem iStrD_ap (w : DE) (δ : DS) (R : List PyData → DS → Prop) : iStrD w δ R = (w δ fun o δ1 => use o δ1 fun x => stC x fun z => z.length ≤ 1000000 ∧ R (signs z) δ1) := rfl
section
variable {X : Cx} {tg : Expr}
end
end DL
set_option Elab.async false
set_option linter.all false
set_option maxRecDepth 100000
set_option maxHeartbeats 4000000
namespace DL
open PySem PySem.Spec PyProof.Rows L2
variable [Tb]
def repS (z : Str) (n : Nat) : Str := ⟨(List.replicate n z.cps).foldl (· ++ ·) #[]⟩
def pMulS : P2 := fun x y R => match x, y with
  | .str z, .int k => (2 ≤ k ∧ k ≤ 1000 ∧ 1 ≤ z.length ∧ z.length ≤ 1000) ∧ R (.str (repS z k.toNat))
  | _, _ => False
omit [Tb] in
@[simp ↓] theorem pMulS_si (z : Str) (k : Int) (R : PyData → Prop) : pMulS (.str z) (.int k) R = ((2 ≤ k ∧ k ≤ 1000 ∧ 1 ≤ z.length ∧ z.length ≤ 1000) ∧ R (.str (repS z k.toNat))) := rfl
section
variable {X : Cx}
end
end DL
set_option Elab.async false
set_option linter.all false
set_option maxRecDepth 100000
set_option maxHeartbeats 4000000
namespace DL
open PySem PySem.Spec PyProof.Rows L2
variable [Tb]
def valI (kvs : List (Int × PyData)) (k : Int) : Option PyData := (kvs.find? fun p => decide (p.1 = k)).map (·.2)
def putI (kvs : List (Int × PyData)) (k : Int) (x : PyData) : List (Int × PyData) := if (kvs.any fun p => decide (p.1 = k)) = true then kvs.map (fun p => if p.1 = k then (p.1, x) else p) else kvs ++ [(k, x)]
def DnI (K : PySem.W.Frag) (G : Hp) (ws : List (Key × V)) (kvs : List (Int × PyData)) : Prop := ws.map (·.1) = kvs.map (fun p => (Sum.inl p.1 : Key)) ∧ DnL K G (ws.map (·.2)) (kvs.map (·.2))
section
variable {K : PySem.W.Frag} {B G G' H H' : Hp} {δ : DS} {σ : L2.St} {a : Addr} {i : Nat}
theorem DnI.nil : DnI K G [] [] := ⟨rfl, .nil⟩
theorem DnI.inv {ws : List (Key × V)} {p : Int × PyData} {kvs : List (Int × PyData)} (h : DnI K G ws (p :: kvs)) : ∃ v ws', ws = (Sum.inl p.1, v) :: ws' ∧ Dn K G v p.2 ∧ DnI K G ws' kvs := by
  obtain ⟨e, t⟩ := h
  match ws, e, t with
  | w :: ws, e, t =>
    rw [List.map_cons, List.map_cons, List.cons.injEq] at e
    rw [List.map_cons, List.map_cons] at t
    cases t with
    | cons d t => exact ⟨w.2, ws, by rw [← e.1], d, e.2, t⟩
theorem DnI.inv0 {ws : List (Key × V)} (h : DnI K G ws []) : ws = [] := by simpa using h.1
theorem DnI.con {p : Int × PyData} {v : V} {ws : List (Key × V)} {kvs : List (Int × PyData)} (d : Dn K G v p.2) (t : DnI K G ws kvs) : DnI K G ((Sum.inl p.1, v) :: ws) (p :: kvs) :=
  ⟨by rw [List.map_cons, List.map_cons, t.1], .cons d t.2⟩
theorem DnI.len : ∀ {kvs : List (Int × PyData)} {ws : List (Key × V)}, DnI K G ws kvs → ws.length = kvs.length
  | [], _, h => by rw [h.inv0]; rfl
  | p :: kvs, _, h => by
    obtain ⟨v, ws', rfl, _, t⟩ := h.inv
    simp [t.len]
theorem DnI.mono {kvs : List (Int × PyData)} {ws : List (Key × V)} (h : DnI K G ws kvs) (s : Same G G') : DnI K G' ws kvs := ⟨h.1, h.2.mono s⟩
theorem DnI.val (k : Int) : ∀ {kvs : List (Int × PyData)} {ws : List (Key × V)}, DnI K G ws kvs → (valI kvs k = none ∧ valV ws (Sum.inl k) = none) ∨ ∃ x v, valI kvs k = some x ∧ valV ws (Sum.inl k) = some v ∧ Dn K G v x
  | [], _, h => by rw [h.inv0]; exact .inl ⟨rfl, rfl⟩
  | p :: kvs, _, h => by
    obtain ⟨v, ws', rfl, d, t⟩ := h.inv
    by_cases q : p.1 = k
    · exact .inr ⟨p.2, v, by simp [valI, q], valV_pos (by simp [q]), d⟩
    · have v1 : valI (p :: kvs) k = valI kvs k := by simp [valI, q]
      have v2 : ¬ (Sum.inl p.1 : Key) = Sum.inl k := fun z => q (Sum.inl.inj z)
      rw [v1, valV_neg v2]
      exact t.val k
theorem DnI.any (k : Int) : ∀ {kvs : List (Int × PyData)} {ws : List (Key × V)}, DnI K G ws kvs → (ws.any fun w => decide (w.1 = (Sum.inl k : Key))) = kvs.any fun p => decide (p.1 = k)
  | [], _, h => by rw [h.inv0]; rfl
  | p :: kvs, _, h => by
    obtain ⟨v, ws', rfl, _, t⟩ := h.inv
    rw [List.any_cons, List.any_cons, t.any k]
    congr 1
    exact decide_eq_decide.mpr ⟨fun z => Sum.inl.inj z, fun z => by rw [z]⟩
theorem DnI.put {k : Int} {v : V} {x : PyData} (d : Dn K G v x) {kvs : List (Int × PyData)} {ws : List (Key × V)} (h : DnI K G ws kvs) : DnI K G (putK ws (Sum.inl k) v) (putI kvs k x) := by
  have snoc : ∀ {kvs : List (Int × PyData)} {ws : List (Key × V)}, DnI K G ws kvs → DnI K G (ws ++ [(Sum.inl k, v)]) (kvs ++ [(k, x)]) := fun {kvs} => by
    induction kvs with
    | nil => intro ws h; rw [h.inv0]; exact DnI.con (p := (k, x)) d .nil
    | cons p kvs ih =>
      intro ws h
      obtain ⟨u, ws', rfl, d', t⟩ := h.inv
      exact DnI.con d' (ih t)
  have repl : ∀ {kvs : List (Int × PyData)} {ws : List (Key × V)}, DnI K G ws kvs → DnI K G (ws.map fun w => if w.1 = (Sum.inl k : Key) then (w.1, v) else w) (kvs.map fun p => if p.1 = k then (p.1, x) else p) := fun {kvs} => by
    induction kvs with
    | nil => intro ws h; rw [h.inv0]; exact .nil
    | cons p kvs ih =>
      intro ws h
      obtain ⟨u, ws', rfl, d', t⟩ := h.inv
      rw [List.map_cons, List.map_cons]
      by_cases q : p.1 = k
      · rw [if_pos q, if_pos (by simp [q])]
        exact DnI.con (p := (p.1, x)) d (ih t)
      · rw [if_neg q, if_neg fun z => q (Sum.inl.inj z)]
        exact DnI.con d' (ih t)
  unfold putK putI
  rw [h.any k]
  split
  · exact repl h
  · exact snoc h
theorem Rel.frz {c : Cell} {l : List Addr} {x : PyData} {u : HO} {od : Obj} (R : Rel K B G δ σ H) (h : δ[i]? = some c) (hl : c.fp = a :: l) (ha : H a = some u) (hσ : σ[i]? = some (some (.ref a)))
    (dn : ∀ G', Same G G' → G' a = some (.frz od u) → (∀ b ∈ l, b ≠ a → G' b = H b) → Dn K G' (.ref a) x) : ∃ G', Same G G' ∧ Rel K B G' (δ.set i (.d x)) σ (upd H a (.frz od u)) ∧ Dn K G' (.ref a) x := by
  have get : ∀ {j : Nat} {y : Cell}, (δ.set i (.d x))[j]? = some y → (j = i ∧ y = .d x) ∨ (j ≠ i ∧ δ[j]? = some y) := fun {j y} e => by
    by_cases hj : j = i
    · subst hj
      rw [List.getElem?_set_self (List.getElem?_eq_some_iff.mp h).1] at e; cases e; exact .inl ⟨rfl, rfl⟩
    · rw [List.getElem?_set_ne (Ne.symm hj)] at e; exact .inr ⟨hj, e⟩
  obtain ⟨G', hG⟩ : ∃ G' : Hp, G' = fun b => if b = a then some (.frz od u) else if b ∈ l then H b else G b := ⟨_, rfl⟩
  have ga : G' a = some (.frz od u) := by rw [hG]; simp
  have gl : ∀ b ∈ l, b ≠ a → G' b = H b := fun b hb n => by rw [hG]; simp [n, hb]
  have go : ∀ b, b ∉ c.fp → G' b = G b := fun b n => by
    rw [hl] at n
    have n1 : b ≠ a := fun z => n (by rw [z]; simp)
    have n2 : b ∉ l := fun z => n (by simp [z])
    rw [hG]
    simp [n1, n2]
  have am : a ∈ c.fp := by rw [hl]; simp
  have ng : ∀ {b : Addr} {o : HO}, G b = some o → b ∉ c.fp := fun {b o} e m => by rw [(R.fr i _ b h m).1] at e; cases e
  have nb : ∀ {b : Addr} {o : HO}, B b = some o → b ∉ c.fp := fun {b o} e m => by rw [(R.fr i _ b h m).2] at e; cases e
  have sG : Same G G' := fun b o e => by rw [go b (ng e)]; exact e
  have oc := R.ok i c _ h hσ
  refine ⟨G', sG, ⟨by simp [R.len], fun b o e => ?_, fun b o e => ?_, fun b => ?_, fun j y w e1 e2 => ?_, fun j k y z b e1 e2 m1 m2 => ?_, fun j y b e1 m => ?_, ⟨tabs_upd R.tt.t (cell_te oc am), ⟨R.tt.n.b, fun b o e ps z => ?_⟩⟩⟩, dn G' sG ga gl⟩
  · by_cases hb : b = a
    · subst hb; rw [upd_same]; rw [ga] at e; exact e
    · rw [upd_ne hb]
      by_cases m : b ∈ c.fp
      · rw [hl] at m
        rcases List.mem_cons.mp m with z | z
        · exact absurd z hb
        · rw [gl b z hb] at e; exact e
      · rw [go b m] at e; exact R.sg _ _ e
  · rw [upd_ne (fun z => nb e (by rw [z]; exact am))]; exact R.sb _ _ e
  · by_cases m : b ∈ c.fp
    · exact .inr (R.fr i _ b h m).2
    · rw [go b m]; exact R.dj b
  · rcases get e1 with ⟨rfl, rfl⟩ | ⟨hj, e1⟩
    · rw [hσ] at e2; cases e2; exact ⟨_, rfl, dn G' sG ga gl⟩
    · exact (R.ok j y w e1 e2).stay sG fun b hb => upd_ne fun z => hj (R.ap j i y _ b e1 h hb (by rw [z]; exact am))
  · rcases get e1 with ⟨_, rfl⟩ | ⟨h1, e3⟩
    · cases m1
    · rcases get e2 with ⟨_, rfl⟩ | ⟨h2, e4⟩
      · cases m2
      · exact R.ap j k y z b e3 e4 m1 m2
  · rcases get e1 with ⟨_, rfl⟩ | ⟨hj, e1⟩
    · cases m
    · obtain ⟨f1, f2⟩ := R.fr j y b e1 m
      exact ⟨by rw [go b fun z => hj (R.ap j i y _ b e1 h m z)]; exact f1, f2⟩
  · subst z
    by_cases m : b ∈ c.fp
    · rw [hl] at m
      by_cases hb : b = a
      · subst hb; rw [ga] at e; cases e
      · rcases List.mem_cons.mp m with z | z
        · exact hb z
        · rw [gl b z hb] at e
          exact (cell_te oc (by rw [hl]; exact m) _ e).1 ps rfl
    · rw [go b m] at e; exact R.tt.n.g _ _ e ps rfl
end
end DL
set_option Elab.async false
set_option linter.all false
set_option maxRecDepth 100000
set_option maxHeartbeats 4000000
namespace DL
open PySem PySem.Spec PyProof.Rows L2
variable [Tb]
def fzC : Cell → Option PyData
  | .d x => some x
  | .od _ kvs => some (dTD kvs)
  | .gx (.oi _ kvs) => some (dKD kvs)
  | .gx (.og _ gs) => some (dKD (gs.map fun g => (g.1, .list g.2.2)))
  | _ => none
def onF (c : Option Cell) (k : PyData → Prop) (_u : Stop k) : Prop := ∃ x, c.bind fzC = some x ∧ k x
omit [Tb] in
@[simp ↓] theorem onF_d (x : PyData) (k : PyData → Prop) (u : Stop k) : onF (some (.d x)) k u = k x := propext ⟨fun ⟨y, e, h⟩ => by cases e; exact h, fun h => ⟨x, rfl, h⟩⟩
omit [Tb] in
@[simp ↓] theorem onF_od (a : Addr) (kvs : List (List Int × PyData)) (k : PyData → Prop) (u : Stop k) : onF (some (.od a kvs)) k u = k (dTD kvs) := propext ⟨fun ⟨y, e, h⟩ => by cases e; exact h, fun h => ⟨_, rfl, h⟩⟩
omit [Tb] in
@[simp ↓] theorem onF_oi (a : Addr) (kvs : List (Int × PyData)) (k : PyData → Prop) (u : Stop k) : onF (some (.gx (.oi a kvs))) k u = k (dKD kvs) := propext ⟨fun ⟨y, e, h⟩ => by cases e; exact h, fun h => ⟨_, rfl, h⟩⟩
omit [Tb] in
@[simp ↓] theorem onF_og (a : Addr) (gs : List (Int × Addr × List PyData)) (k : PyData → Prop) (u : Stop k) : onF (some (.gx (.og a gs))) k u = k (dKD (gs.map fun g => (g.1, .list g.2.2))) := propext ⟨fun ⟨y, e, h⟩ => by cases e; exact h, fun h => ⟨_, rfl, h⟩⟩
def wVarF (i : Nat) : DE := fun δ R => onF δ[i]? (fun x => R (.d x) (δ.set i (.d x))) .mk
omit [Tb] in
@[simp ↓] theorem wVarF_ap (i : Nat) (δ : DS) (R : Opd → DS → Prop) : wVarF i δ R = onF δ[i]? (fun x => R (.d x) (δ.set i (.d x))) .mk := rfl
section
variable {X : Cx} {e f : Expr} {pos px pos' : Pos} {x : Str} {i : Nat}
end
omit [Tb] in
theorem dKD_inj {kvs kws : List (Int × PyData)} (h : dKD kvs = dKD kws) : kvs = kws := by
  replace h := (List.cons.inj (PyData.dict.inj h)).2
  induction kvs generalizing kws with
  | nil => cases kws with
    | nil => rfl
    | cons q qs => cases h
  | cons p ps ih => cases kws with
    | nil => cases h
    | cons q qs =>
      rw [List.map_cons, List.map_cons] at h
      obtain ⟨h1, h2⟩ := List.cons.inj h
      have e1 := PyData.int.inj (Prod.mk.inj h1).1
      have e2 := (Prod.mk.inj h1).2
      rw [ih h2, show p = q from Prod.ext e1 e2]
omit [Tb] in
theorem dTD_inj {kvs kws : List (List Int × PyData)} (h : dTD kvs = dTD kws) : kvs = kws := by
  replace h := (List.cons.inj (PyData.dict.inj h)).2
  induction kvs generalizing kws with
  | nil => cases kws with
    | nil => rfl
    | cons q qs => cases h
  | cons p ps ih => cases kws with
    | nil => cases h
    | cons q qs =>
      rw [List.map_cons, List.map_cons] at h
      obtain ⟨h1, h2⟩ := List.cons.inj h
      have e1 := map_int_inj (PyData.tuple.inj (Prod.mk.inj h1).1)
      have e2 := (Prod.mk.inj h1).2
      rw [ih h2, show p = q from Prod.ext e1 e2]
def dkC (c : Option Cell) (k : List (Int × PyData) → Prop) (_u : Stop k) : Prop := ∃ kvs, ((∃ a, c = some (.gx (.oi a kvs))) ∨ c = some (.d (dKD kvs))) ∧ k kvs
omit [Tb] in
@[simp ↓] theorem dkC_oi (a : Addr) (kvs : List (Int × PyData)) (k : List (Int × PyData) → Prop) (u : Stop k) : dkC (some (.gx (.oi a kvs))) k u = k kvs :=
  propext ⟨fun ⟨ks, e, h⟩ => by rcases e with ⟨_, e⟩ | e <;> cases e; exact h, fun h => ⟨kvs, .inl ⟨a, rfl⟩, h⟩⟩
omit [Tb] in
@[simp ↓] theorem dkC_d (kvs : List (Int × PyData)) (k : List (Int × PyData) → Prop) (u : Stop k) : dkC (some (.d (dKD kvs))) k u = k kvs :=
  propext ⟨fun ⟨ks, e, h⟩ => by
    rcases e with ⟨_, e⟩ | e
    · cases e
    · rw [dKD_inj (Cell.d.inj (Option.some.inj e))]; exact h, fun h => ⟨kvs, .inr rfl, h⟩⟩
def isDk (δ : DS) (i : Nat) : Prop := ∃ kvs, (∃ a, δ[i]? = some (.gx (.oi a kvs))) ∨ δ[i]? = some (.d (dKD kvs))
omit [Tb] in
@[simp ↓] theorem isDk_oi (a : Addr) (kvs : List (Int × PyData)) (δ : DS) (i : Nat) (h : δ[i]? = some (.gx (.oi a kvs))) : isDk δ i = True := eq_true ⟨kvs, .inl ⟨a, h⟩⟩
omit [Tb] in
@[simp ↓] theorem isDk_d (kvs : List (Int × PyData)) (δ : DS) (i : Nat) (h : δ[i]? = some (.d (dKD kvs))) : isDk δ i = True := eq_true ⟨kvs, .inr h⟩
omit [Tb] in
@[simp ↓] theorem varC_gx (t : GX) (i : Nat) (k : Opd → Prop) (u : Stop k) : varC (some (.gx t)) i k u = k (.s i) := rfl
omit [Tb] in
@[simp] theorem sameIo_gx (t : GX) (cs : List Cell) (e : Cell) (δ : DS) : sameIo (.gx t :: cs) (e :: δ) = ((∃ u, e = .gx u ∧ u.hd = t.hd) ∧ sameIo cs δ) := rfl
omit [Tb] in
@[simp] theorem outC_gx (t : GX) (cs : List Cell) (e : Cell) (δ : DS) : outC (.gx t :: cs) (e :: δ) = e :: outC cs δ := rfl
omit [Tb] in
@[simp ↓] theorem hd_oi (a : Addr) (kvs : List (Int × PyData)) : (GX.oi a kvs).hd = a := rfl
omit [Tb] in
@[simp ↓] theorem hd_og (a : Addr) (gs : List (Int × Addr × List PyData)) : (GX.og a gs).hd = a := rfl
omit [Tb] in
@[simp ↓] theorem hd_bu (a l : Addr) (n f : Str) (xs : List PyData) : (GX.bu a l n f xs).hd = a := rfl
omit [Tb] in
@[simp ↓] theorem hd_b0 (a : Addr) (n : Str) : (GX.b0 a n).hd = a := rfl
section
variable {K : PySem.W.Frag} {B G H : Hp} {δ : DS} {σ : L2.St} {i : Nat} {kvs : List (Int × PyData)}
end
end DL
set_option Elab.async false
set_option linter.all false
set_option maxRecDepth 100000
set_option maxHeartbeats 4000000
namespace DL
open PySem PySem.Spec PyProof.Rows L2
variable [Tb]
def wIIn (i : Nat) (w : DE) : DE := fun δ R => w δ fun o δ1 => use o δ1 fun x => asI x (fun k => dkC δ1[i]? (fun kvs => R (.d (.bool (valI kvs k).isSome)) δ1) .mk) .mk
def wINotIn (i : Nat) (w : DE) : DE := fun δ R => w δ fun o δ1 => use o δ1 fun x => asI x (fun k => dkC δ1[i]? (fun kvs => R (.d (.bool (!(valI kvs k).isSome))) δ1) .mk) .mk
def wIGet (i : Nat) (w : DE) : DE := fun δ R => isDk δ i ∧ w δ fun o δ1 => use o δ1 fun x => asI x (fun k => dkC δ1[i]? (fun kvs => onS (valI kvs k) (fun y => R (.d y) δ1) .mk) .mk) .mk
def wIGetC (i : Nat) (w u : DE) : DE := fun δ R => isDk δ i ∧ w δ fun o δ1 => u δ1 fun o2 δ2 => use o δ2 fun x => asI x (fun k => lk o2 δ2 fun y δ3 => dkC δ3[i]? (fun kvs => R (.d ((valI kvs k).getD y)) δ3) .mk) .mk
def oiC (c : Option Cell) (k : Addr → List (Int × PyData) → Prop) (_u : Stop k) : Prop := ∃ a kvs, c = some (.gx (.oi a kvs)) ∧ k a kvs
def isOi (δ : DS) (i : Nat) : Prop := ∃ a kvs, δ[i]? = some (.gx (.oi a kvs))
def wIPut (i : Nat) (wk wv : DE) : DTS := fun E δ => isOi δ i ∧ wv δ fun o δ1 => lk o δ1 fun x δ2 => wk δ2 fun o2 δ3 => use o2 δ3 fun y => asI y (fun k => oiC δ3[i]? (fun a kvs => kvs.length ≤ 2000000 ∧ E.nx (δ3.set i (.gx (.oi a (putI kvs k x))))) .mk) .mk
def mDI : DM := fun δ R => ∀ a, R (.gx (.oi a [])) δ
def mDG : DM := fun δ R => ∀ a, R (.gx (.og a [])) δ
def mDI1 (wk wv : DE) : DM := fun δ R => wk δ fun o δ1 => use o δ1 fun x => asI x (fun k => wv δ1 fun o2 δ2 => lk o2 δ2 fun y δ3 => ∀ a, R (.gx (.oi a [(k, y)])) δ3) .mk
omit [Tb] in
@[simp ↓] theorem wIIn_ap (i : Nat) (w : DE) (δ : DS) (R : Opd → DS → Prop) : wIIn i w δ R = (w δ fun o δ1 => use o δ1 fun x => asI x (fun k => dkC δ1[i]? (fun kvs => R (.d (.bool (valI kvs k).isSome)) δ1) .mk) .mk) := rfl
omit [Tb] in
@[simp ↓] theorem wINotIn_ap (i : Nat) (w : DE) (δ : DS) (R : Opd → DS → Prop) : wINotIn i w δ R = (w δ fun o δ1 => use o δ1 fun x => asI x (fun k => dkC δ1[i]? (fun kvs => R (.d (.bool (!(valI kvs k).isSome))) δ1) .mk) .mk) := rfl
omit [Tb] in
@[simp ↓] theorem wIGet_ap (i : Nat) (w : DE) (δ : DS) (R : Opd → DS → Prop) : wIGet i w δ R = (isDk δ i ∧ w δ fun o δ1 => use o δ1 fun x => asI x (fun k => dkC δ1[i]? (fun kvs => onS (valI kvs k) (fun y => R (.d y) δ1) .mk) .mk) .mk) := rfl
omit [Tb] in
@[simp ↓] theorem wIGetC_ap (i : Nat) (w u : DE) (δ : DS) (R : Opd → DS → Prop) : wIGetC i w u δ R = (isDk δ i ∧ w δ fun o δ1 => u δ1 fun o2 δ2 => use o δ2 fun x => asI x (fun k => lk o2 δ2 fun y δ3 => dkC δ3[i]? (fun kvs => R (.d ((valI kvs k).getD y)) δ3) .mk) .mk) := rfl
omit [Tb] in
@[simp ↓] theorem wIPut_ap (i : Nat) (wk wv : DE) (E : DEnds) (δ : DS) : wIPut i wk wv E δ = (isOi δ i ∧ wv δ fun o δ1 => lk o δ1 fun x δ2 => wk δ2 fun o2 δ3 => use o2 δ3 fun y => asI y (fun k => oiC δ3[i]? (fun a kvs => kvs.length ≤ 2000000 ∧ E.nx (δ3.set i (.gx (.oi a (putI kvs k x))))) .mk) .mk) := rfl
omit [Tb] in
@[simp ↓] theorem mDI_ap (δ : DS) (R : Cell → DS → Prop) : mDI δ R = ∀ a, R (.gx (.oi a [])) δ := rfl
omit [Tb] in
@[simp ↓] theorem mDG_ap (δ : DS) (R : Cell → DS → Prop) : mDG δ R = ∀ a, R (.gx (.og a [])) δ := rfl
omit [Tb] in
@[simp ↓] theorem mDI1_ap (wk wv : DE) (δ : DS) (R : Cell → DS → Prop) : mDI1 wk wv δ R = (wk δ fun o δ1 => use o δ1 fun x => asI x (fun k => wv δ1 fun o2 δ2 => lk o2 δ2 fun y δ3 => ∀ a, R (.gx (.oi a [(k, y)])) δ3) .mk) := rfl
omit [Tb] in
@[simp ↓] theorem oiC_oi (a : Addr) (kvs : List (Int × PyData)) (k : Addr → List (Int × PyData) → Prop) (u : Stop k) : oiC (some (.gx (.oi a kvs))) k u = k a kvs :=
  propext ⟨fun ⟨b, ks, e, h⟩ => by cases e; exact h, fun h => ⟨a, kvs, rfl, h⟩⟩
omit [Tb] in
@[simp ↓] theorem isOi_oi (a : Addr) (kvs : List (Int × PyData)) (δ : DS) (i : Nat) (h : δ[i]? = some (.gx (.oi a kvs))) : isOi δ i = True := eq_true ⟨a, kvs, h⟩
section
variable {X : Cx} {e f : Expr} {pos pos' px apos cpos : Pos} {x : Str} {i : Nat}
theorem DnI.some {K : PySem.W.Frag} {G : Hp} {ws : List (Key × V)} {kvs : List (Int × PyData)} (d : DnI K G ws kvs) (k : Int) : (valV ws (Sum.inl k)).isSome = (valI kvs k).isSome := by
  rcases d.val k with ⟨q1, q2⟩ | ⟨x, v, q1, q2, _⟩ <;> rw [q1, q2] <;> rfl
end
end DL
set_option Elab.async false
set_option linter.all false
set_option maxRecDepth 100000
set_option maxHeartbeats 4000000
namespace DL
open PySem PySem.Spec PyProof.Rows L2
variable [Tb]
section
variable {X : Cx} {e f : Expr} {pos pos' px p1 apos cpos : Pos} {x : Str} {i : Nat}
end
abbrev Gs := List (Int × Addr × List PyData)
def firstG (gs : Gs) (n : Int) : Option (Addr × List PyData) := (gs.find? fun g => decide (g.1 = n)).map (·.2)
def putG (gs : Gs) (n : Int) (l : Addr) : Gs := if (firstG gs n).isSome then gs else gs ++ [(n, l, [])]
def appG : Gs → Int → PyData → Gs
  | [], _, _ => []
  | g :: gs, n, y => if g.1 = n then (g.1, g.2.1, g.2.2 ++ [y]) :: gs else g :: appG gs n y
def ogC (c : Option Cell) (k : Addr → Gs → Prop) (_u : Stop k) : Prop := ∃ a gs, c = some (.gx (.og a gs)) ∧ k a gs
omit [Tb] in
@[simp ↓] theorem ogC_og (a : Addr) (gs : Gs) (k : Addr → Gs → Prop) (u : Stop k) : ogC (some (.gx (.og a gs))) k u = k a gs :=
  propext ⟨fun ⟨b, ks, e, h⟩ => by cases e; exact h, fun h => ⟨a, gs, rfl, h⟩⟩
def isOg (δ : DS) (i : Nat) : Prop := ∃ a gs, δ[i]? = some (.gx (.og a gs))
omit [Tb] in
@[simp ↓] theorem isOg_og (a : Addr) (gs : Gs) (δ : DS) (i : Nat) (h : δ[i]? = some (.gx (.og a gs))) : isOg δ i = True := eq_true ⟨a, gs, h⟩
def wGApp (i : Nat) (wk wv : DE) : DTS := fun E δ => isOg δ i ∧ wk δ fun o δ1 => use o δ1 fun x => asI x (fun n => ogC δ1[i]? (fun a gs => (gs.length ≤ 1000000 ∧ ∀ g ∈ gs, g.2.2.length ≤ 1000000) ∧ ∀ l, wv (δ1.set i (.gx (.og a (putG gs n l)))) fun o2 δ2 => lk o2 δ2 fun y δ3 => δ3[i]? = some (.gx (.og a (putG gs n l))) ∧ E.nx (δ3.set i (.gx (.og a (appG (putG gs n l) n y))))) .mk) .mk
omit [Tb] in
@[simp ↓] theorem wGApp_ap (i : Nat) (wk wv : DE) (E : DEnds) (δ : DS) : wGApp i wk wv E δ = (isOg δ i ∧ wk δ fun o δ1 => use o δ1 fun x => asI x (fun n => ogC δ1[i]? (fun a gs => (gs.length ≤ 1000000 ∧ ∀ g ∈ gs, g.2.2.length ≤ 1000000) ∧ ∀ l, wv (δ1.set i (.gx (.og a (putG gs n l)))) fun o2 δ2 => lk o2 δ2 fun y δ3 => δ3[i]? = some (.gx (.og a (putG gs n l))) ∧ E.nx (δ3.set i (.gx (.og a (appG (putG gs n l) n y))))) .mk) .mk) := rfl
section
variable {K : PySem.W.Frag} {B G H : Hp} {δ : DS} {σ : L2.St} {i : Nat}
end
section
variable {X : Cx} {e f : Expr} {pos px p1 p2 apos cpos apos' cpos' : Pos} {x : Str} {i : Nat}
end
end DL
set_option Elab.async false
set_option linter.all false
set_option maxRecDepth 100000
set_option maxHeartbeats 4000000
namespace DL
open PySem PySem.Spec PyProof.Rows L2
variable [Tb]
def obD (n : Str) (fs : List (Str × PyData)) : PyData := objD n fs
def putD1 (f : Str) (x : PyData) : List (Str × PyData) → List (Str × PyData)
  | [] => [(f, x)]
  | (g, y) :: r => if g = f then (g, x) :: r else (g, y) :: putD1 f x r
section
variable {K : PySem.W.Frag} {G : Hp}
def FldOk (K : PySem.W.Frag) (G : Hp) (ws : List (Str × V)) (fs : List (Str × PyData)) : Prop := ws.map (·.1) = fs.map (·.1) ∧ DnL K G (ws.map (·.2)) (fs.map (·.2))
theorem FldOk.nil : FldOk K G [] [] := ⟨rfl, .nil⟩
theorem FldOk.split {w : Str × V} {ws : List (Str × V)} {p : Str × PyData} {fs : List (Str × PyData)} (h : FldOk K G (w :: ws) (p :: fs)) : w.1 = p.1 ∧ Dn K G w.2 p.2 ∧ FldOk K G ws fs := by
  obtain ⟨h1, h2⟩ := h
  simp only [List.map_cons, List.cons.injEq] at h1 h2
  cases h2 with
  | cons a b => exact ⟨h1.1, a, h1.2, b⟩
theorem FldOk.join {w : Str × V} {ws : List (Str × V)} {p : Str × PyData} {fs : List (Str × PyData)} (h1 : w.1 = p.1) (h2 : Dn K G w.2 p.2) (h3 : FldOk K G ws fs) : FldOk K G (w :: ws) (p :: fs) := by
  refine ⟨?_, ?_⟩
  · simp only [List.map_cons, h1, h3.1]
  · exact .cons h2 h3.2
theorem FldOk.look {f : Str} {y : PyData} : ∀ {ws : List (Str × V)} {fs : List (Str × PyData)}, FldOk K G ws fs → fs.lookup f = some y → ∃ v, ws.lookup f = some v ∧ Dn K G v y
  | [], [], _, e => by cases e
  | [], _ :: _, h, _ => by cases h.1
  | _ :: _, [], h, _ => by cases h.1
  | (a, v) :: ws, (b, x) :: fs, h, e => by
    obtain ⟨h1, h2, h3⟩ := h.split
    have h1 : a = b := h1
    subst h1
    rw [List.lookup_cons] at e ⊢
    cases hb : f == a with
    | true => rw [hb] at e; cases e; exact ⟨v, rfl, h2⟩
    | false => rw [hb] at e; exact FldOk.look h3 e
theorem FldOk.none {f : Str} : ∀ {ws : List (Str × V)} {fs : List (Str × PyData)}, FldOk K G ws fs → fs.lookup f = none → ws.lookup f = none
  | [], [], _, _ => rfl
  | [], _ :: _, h, _ => by cases h.1
  | _ :: _, [], h, _ => by cases h.1
  | (a, v) :: ws, (b, x) :: fs, h, e => by
    obtain ⟨h1, _, h3⟩ := h.split
    have h1 : a = b := h1
    subst h1
    rw [List.lookup_cons] at e ⊢
    cases hb : f == a with
    | true => rw [hb] at e; cases e
    | false => rw [hb] at e; exact FldOk.none h3 e
theorem FldOk.put {f : Str} {v : V} {x : PyData} (hv : Dn K G v x) : ∀ {ws : List (Str × V)} {fs : List (Str × PyData)}, FldOk K G ws fs → FldOk K G (putF f v ws) (putD1 f x fs)
  | [], [], _ => .join rfl hv .nil
  | [], _ :: _, h => by cases h.1
  | _ :: _, [], h => by cases h.1
  | (a, u) :: ws, (b, y) :: fs, h => by
    obtain ⟨h1, h2, h3⟩ := h.split
    have h1 : a = b := h1
    subst h1
    unfold putF putD1
    split
    · exact .join rfl hv h3
    · exact .join rfl h2 (FldOk.put hv h3)
theorem FldOk.len {ws : List (Str × V)} {fs : List (Str × PyData)} (h : FldOk K G ws fs) : ws.length = fs.length := by
  have := congrArg List.length h.1
  simpa using this
end
def obC (x : PyData) (n : Str) (k : List (Str × PyData) → Prop) (_u : Stop k) : Prop := ∃ fs, x = obD n fs ∧ k fs
def fldC (x : PyData) (n f : Str) (k : PyData → Prop) (_u : Stop k) : Prop := ∃ fs y, x = obD n fs ∧ fs.lookup f = some y ∧ k y
def wFld (n f : Str) (w : DE) : DE := fun δ R => w δ fun o δ1 => use o δ1 fun x => fldC x n f (fun y => R (.d y) δ1) .mk
def ownC (c : Option Cell) (n : Str) (k : Addr → List (Str × PyData) → Prop) (_u : Stop k) : Prop := ∃ a fs, c = some (.ob a n fs) ∧ k a fs
def wFldO (i : Nat) (n f : Str) : DE := fun δ R => ownC δ[i]? n (fun _ fs => ∃ y, fs.lookup f = some y ∧ R (.d y) δ) .mk
def gA (i : Nat) (n f : Str) : DTG := fun x δ R => ownC δ[i]? n (fun a fs => fs.length < 900 ∧ R (δ.set i (.ob a n (putD1 f x fs)))) .mk
omit [Tb] in
@[simp ↓] theorem wFld_ap (n f : Str) (w : DE) (δ : DS) (R : Opd → DS → Prop) : wFld n f w δ R = (w δ fun o δ1 => use o δ1 fun x => fldC x n f (fun y => R (.d y) δ1) .mk) := rfl
omit [Tb] in
@[simp ↓] theorem wFldO_ap (i : Nat) (n f : Str) (δ : DS) (R : Opd → DS → Prop) : wFldO i n f δ R = ownC δ[i]? n (fun _ fs => ∃ y, fs.lookup f = some y ∧ R (.d y) δ) .mk := rfl
omit [Tb] in
@[simp ↓] theorem gA_ap (i : Nat) (n f : Str) (x : PyData) (δ : DS) (R : DS → Prop) : gA i n f x δ R = ownC δ[i]? n (fun a fs => fs.length < 900 ∧ R (δ.set i (.ob a n (putD1 f x fs)))) .mk := rfl
@[simp ↓] theorem ownC_some (a : Addr) (n : Str) (fs : List (Str × PyData)) (k : Addr → List (Str × PyData) → Prop) (u : Stop k) : ownC (some (.ob a n fs)) n k u = k a fs :=
  propext ⟨fun ⟨a', fs', e, h⟩ => by cases e; exact h, fun h => ⟨a, fs, rfl, h⟩⟩
theorem obD_inj {n : Str} {fs gs : List (Str × PyData)} (h : obD n fs = obD n gs) : fs = gs := by
  unfold obD at h
  simp only [PyData.dict.injEq, List.cons.injEq, true_and] at h
  have inj : ∀ {xs ys : List (Str × PyData)}, (xs.map fun p => (PyData.str p.1, p.2)) = (ys.map fun p => (PyData.str p.1, p.2)) → xs = ys := by
    intro xs
    induction xs with
    | nil => intro ys h; cases ys with | nil => rfl | cons y ys => cases h
    | cons x xs ih =>
      intro ys h
      cases ys with
      | nil => cases h
      | cons y ys =>
        simp only [List.map_cons, List.cons.injEq, Prod.mk.injEq, PyData.str.injEq] at h
        rw [ih h.2, Prod.ext h.1.1 h.1.2]
  exact inj h
@[simp ↓] theorem obC_of {n : Str} {fs : List (Str × PyData)} {k : List (Str × PyData) → Prop} {u : Stop k} : obC (obD n fs) n k u = k fs :=
  propext ⟨fun ⟨fs', e, h⟩ => by rw [obD_inj e]; exact h, fun h => ⟨fs, rfl, h⟩⟩
section
variable {X : Cx} {e : Expr} {f : Str} {pos : Pos} {n : Str} {C : Addr}
end
end DL
set_option Elab.async false
set_option linter.all false
set_option maxRecDepth 100000
set_option maxHeartbeats 4000000
namespace DL
open PySem PySem.Spec PyProof.Rows L2 StX
variable [Tb]
theorem RoomG.make {k : Nat} {A : Around} (r : RoomG (k + 1) A) (C : Addr) (us : List Value) (kw : List (Str × Value)) : RoomG k (A.under (.builtin "type.__call__" ⟨.ref C :: us, kw⟩)) :=
  ⟨r.rm.make C us kw, by
    simp only [Around.under, r.gd]
    rfl⟩
section
variable {X : Cx} {CX : CXT} {k : Nat} {f C : Addr} {fd : FuncData} {ps : List Str} {sp : Sp} {E : XK} {o e : Expr} {es : List Expr} {ta : TE} {t : TA} {m x : Str} {apos pos p : Pos}
end
section
variable {K : PySem.W.Frag} {B G H : Hp} {δ : DS} {σ : L2.St} {a C dx : Addr} {n : Str}
end
def madeC (cs : List Cell) (n : Str) (k : List (Str × PyData) → Prop) (_u : Stop k) : Prop := ∃ a fs rest, cs = .ob a n fs :: rest ∧ k fs
@[simp ↓] theorem madeC_cons (a : Addr) (n : Str) (fs : List (Str × PyData)) (rest : List Cell) (k : List (Str × PyData) → Prop) (u : Stop k) : madeC (.ob a n fs :: rest) n k u = k fs :=
  propext ⟨fun ⟨a', fs', r', e, h⟩ => by cases e; exact h, fun h => ⟨a, fs, rest, rfl, h⟩⟩
def wMake (n : Str) (sp : DSp) (w : DA) : DE := fun δ R => w δ fun os δ1 => lkL os δ1 fun xs δ2 => ∀ a : Addr, ask sp (.ob a n [] :: xs.map Cell.d) (fun y cs => y = .none ∧ madeC cs n (fun fs => R (.d (obD n fs)) δ2) .mk) .mk
def wMeth (n m : Str) (sp : DSp) (w : DE) (wa : DA) : DE := fun δ R => w δ fun o δ1 => lk o δ1 fun x δ2 => obC x n (fun fs => fs.lookup m = none ∧ wa δ2 fun os δ3 => lkL os δ3 fun xs δ4 => ask sp (.d x :: xs.map Cell.d) (fun y _ => R (.d y) δ4) .mk) .mk
omit [Tb] in
@[simp ↓] theorem wMake_ap (n : Str) (sp : DSp) (w : DA) (δ : DS) (R : Opd → DS → Prop) : wMake n sp w δ R = (w δ fun os δ1 => lkL os δ1 fun xs δ2 => ∀ a : Addr, ask sp (.ob a n [] :: xs.map Cell.d) (fun y cs => y = .none ∧ madeC cs n (fun fs => R (.d (obD n fs)) δ2) .mk) .mk) := rfl
omit [Tb] in
@[simp ↓] theorem wMeth_ap (n m : Str) (sp : DSp) (w : DE) (wa : DA) (δ : DS) (R : Opd → DS → Prop) : wMeth n m sp w wa δ R = (w δ fun o δ1 => lk o δ1 fun x δ2 => obC x n (fun fs => fs.lookup m = none ∧ wa δ2 fun os δ3 => lkL os δ3 fun xs δ4 => ask sp (.d x :: xs.map Cell.d) (fun y _ => R (.d y) δ4) .mk) .mk) := rfl
section
variable {X : Cx} {k : Nat} {f C : Addr} {fd : FuncData} {ps : List Str} {sp : DSp} {o e : Expr} {es : List Expr} {w : DE} {wa : DA} {n m x : Str} {apos pos p : Pos}
end
end DL
set_option Elab.async false
set_option linter.all false
set_option maxRecDepth 100000
set_option maxHeartbeats 4000000
namespace DL
open PySem PySem.Spec PyProof.Rows L2
variable [Tb]
omit [Tb] in
@[simp ↓] theorem sameIo_ob (a : Addr) (n : Str) (fs gs : List (Str × PyData)) (cs : List Cell) (δ : DS) : sameIo (.ob a n fs :: cs) (.ob a n gs :: δ) = sameIo cs δ := propext ⟨fun h => h.2, fun h => ⟨⟨gs, rfl⟩, h⟩⟩
omit [Tb] in
@[simp ↓] theorem outC_ob (a : Addr) (n : Str) (fs : List (Str × PyData)) (e : Cell) (cs : List Cell) (δ : DS) : outC (.ob a n fs :: cs) (e :: δ) = e :: outC cs δ := rfl
end DL
set_option Elab.async false
set_option linter.all false
set_option maxRecDepth 100000
set_option maxHeartbeats 4000000
namespace DL
open PySem PySem.Spec PyProof.Rows L2 StX
variable [Tb]
def obHead (o : Opd) (δ : DS) (n mn : Str) : Prop :=
  match o with
  | .d x => ∃ fs, x = obD n fs ∧ fs.lookup mn = none
  | .s i => (∃ a fs, δ[i]? = some (.ob a n fs) ∧ fs.lookup mn = none) ∨ ∃ a l f xs, δ[i]? = some (.gx (.bu a l n f xs)) ∧ (mn == f) = false
def wMethM (m : List Bool) (n mn : Str) (sp : DSp) (w : DE) (wa : DA) : DE := fun δ R => w δ fun o δ1 => obHead o δ1 n mn ∧ wa δ1 fun os δ2 => lkM m (o :: os) δ2 fun os' δ3 => (slotsOf os').Nodup ∧ ask sp (os'.map (cellOf δ3)) (fun x cs => R (.d x) (putBack os' cs δ3)) .mk
omit [Tb] in
@[simp ↓] theorem wMethM_ap (m : List Bool) (n mn : Str) (sp : DSp) (w : DE) (wa : DA) (δ : DS) (R : Opd → DS → Prop) : wMethM m n mn sp w wa δ R = (w δ fun o δ1 => obHead o δ1 n mn ∧ wa δ1 fun os δ2 => lkM m (o :: os) δ2 fun os' δ3 => (slotsOf os').Nodup ∧ ask sp (os'.map (cellOf δ3)) (fun x cs => R (.d x) (putBack os' cs δ3)) .mk) := rfl
omit [Tb] in
@[simp ↓] theorem obHead_d (x : PyData) (δ : DS) (n mn : Str) : obHead (.d x) δ n mn = obC x n (fun fs => fs.lookup mn = none) .mk := rfl
section
variable {X : Cx} {k : Nat} {f C : Addr} {fd : FuncData} {ps : List Str} {sp : DSp} {o e : Expr} {es : List Expr} {w : DE} {wa : DA} {n mn x : Str} {apos pos p : Pos} {m : List Bool}
end
def pLenD : PN := one fun x R => ∃ kvs, x = dKD kvs ∧ R (.int kvs.length)
omit [Tb] in
@[simp ↓] theorem pLenD_K (kvs : List (Int × PyData)) (R : PyData → Prop) : pLenD [dKD kvs] R = R (.int kvs.length) :=
  propext ⟨fun ⟨ks, e, h⟩ => by rw [dKD_inj e]; exact h, fun h => ⟨kvs, rfl, h⟩⟩
def wLenT (i : Nat) : DE := fun δ R => odC δ[i]? (fun _ kvs => R (.d (.int kvs.length)) δ) .mk
omit [Tb] in
@[simp ↓] theorem wLenT_ap (i : Nat) (δ : DS) (R : Opd → DS → Prop) : wLenT i δ R = odC δ[i]? (fun _ kvs => R (.d (.int kvs.length)) δ) .mk := rfl
section
variable {K : PySem.W.Frag} {G H : Hp} {v : V}
end
section
variable {X : Cx}
def pLstK : List PyData → (List PyData → Prop) → Prop := oneL fun x R => ∃ kvs, x = dKD kvs ∧ R (kvs.map fun p => .int p.1)
end
omit [Tb] in
@[simp ↓] theorem pLstK_K (kvs : List (Int × PyData)) (R : List PyData → Prop) : pLstK [dKD kvs] R = R (kvs.map fun p => .int p.1) :=
  propext ⟨fun ⟨ks, e, h⟩ => by rw [dKD_inj e]; exact h, fun h => ⟨kvs, rfl, h⟩⟩
def wDGetC (i : Nat) (w u : DE) : DE := fun δ R => isOd δ i ∧ w δ fun o δ1 => u δ1 fun o2 δ2 => use o δ2 fun x => keyOf x (fun k => lk o2 δ2 fun y δ3 => odC δ3[i]? (fun _ kvs => R (.d ((valD kvs k).getD y)) δ3) .mk) .mk
omit [Tb] in
@[simp ↓] theorem wDGetC_ap (i : Nat) (w u : DE) (δ : DS) (R : Opd → DS → Prop) : wDGetC i w u δ R = (isOd δ i ∧ w δ fun o δ1 => u δ1 fun o2 δ2 => use o δ2 fun x => keyOf x (fun k => lk o2 δ2 fun y δ3 => odC δ3[i]? (fun _ kvs => R (.d ((valD kvs k).getD y)) δ3) .mk) .mk) := rfl
def pShr : P2 := ints2 fun i j R => 0 ≤ j ∧ R (.int (i / 2 ^ j.toNat))
omit [Tb] in
@[simp ↓] theorem pShr_i (i j : Int) (R : PyData → Prop) : pShr (.int i) (.int j) R = (0 ≤ j ∧ R (.int (i / 2 ^ j.toNat))) := rfl
section
variable {X : Cx} {e f : Expr} {pos pos' px apos cpos : Pos} {x : Str} {i : Nat}
end
end DL
set_option Elab.async false
set_option linter.all false
set_option maxRecDepth 100000
set_option maxHeartbeats 4000000
namespace DL
open PySem PySem.Spec PyProof.Rows L2 StX
variable [Tb]
section
variable {K : PySem.W.Frag} {B G H : Hp} {δ : DS} {σ : L2.St} {a : Addr} {n : Str} {C dx : Addr} {i : Nat}
theorem Rel.tail {c : Cell} {o : Option V} {cs : List Cell} {τ : L2.St} (R : Rel K B G (c :: cs) (o :: τ) H) : Rel K B G cs τ H :=
  ⟨by have := R.len; simpa using this, R.sg, R.sb, R.dj, fun i c w e1 e2 => R.ok (i + 1) c w e1 e2, fun i j c c' b e1 e2 m1 m2 => Nat.succ.inj (R.ap (i + 1) (j + 1) c c' b e1 e2 m1 m2), fun i c b e m => R.fr (i + 1) c b e m, R.tt⟩
end
def outGx (cs : List Cell) (k : GX → Prop) (_u : Stop k) : Prop := ∃ t rest, cs = .gx t :: rest ∧ k t
omit [Tb] in
@[simp ↓] theorem outGx_cons (t : GX) (rest : List Cell) (k : GX → Prop) (u : Stop k) : outGx (.gx t :: rest) k u = k t :=
  propext ⟨fun ⟨s, r, e, h⟩ => by cases e; exact h, fun h => ⟨t, rest, rfl, h⟩⟩
def mMake0 (n : Str) (sp : DSp) : DM := fun δ R => ∀ a : Addr, ask sp [.gx (.b0 a n)] (fun y cs => y = .none ∧ outGx cs (fun t => R (.gx t) δ) .mk) .mk
omit [Tb] in
@[simp ↓] theorem mMake0_ap (n : Str) (sp : DSp) (δ : DS) (R : Cell → DS → Prop) : mMake0 n sp δ R = ∀ a : Addr, ask sp [.gx (.b0 a n)] (fun y cs => y = .none ∧ outGx cs (fun t => R (.gx t) δ) .mk) .mk := rfl
section
variable {X : Cx} {CX : CXT} {k : Nat} {f C : Addr} {fd : FuncData} {ps : List Str} {n x : Str} {p pos px p1 p2 apos cpos : Pos} {i : Nat} {e : Expr} {w : DE} {fl : Str}
end
def b0C (c : Option Cell) (n : Str) (k : Addr → Prop) (_u : Stop k) : Prop := ∃ a, c = some (.gx (.b0 a n)) ∧ k a
omit [Tb] in
@[simp ↓] theorem b0C_b0 (a : Addr) (n : Str) (k : Addr → Prop) (u : Stop k) : b0C (some (.gx (.b0 a n))) n k u = k a :=
  propext ⟨fun ⟨b, e, h⟩ => by cases e; exact h, fun h => ⟨a, rfl, h⟩⟩
def buC (c : Option Cell) (n f : Str) (k : Addr → Addr → List PyData → Prop) (_u : Stop k) : Prop := ∃ a l xs, c = some (.gx (.bu a l n f xs)) ∧ k a l xs
omit [Tb] in
@[simp ↓] theorem buC_bu (a l : Addr) (n f : Str) (xs : List PyData) (k : Addr → Addr → List PyData → Prop) (u : Stop k) : buC (some (.gx (.bu a l n f xs))) n f k u = k a l xs :=
  propext ⟨fun ⟨_, _, _, e, h⟩ => by cases e; exact h, fun h => ⟨a, l, xs, rfl, h⟩⟩
def wBuNew (i : Nat) (n f : Str) : DTS := fun E δ => b0C δ[i]? n (fun a => ∀ l, E.nx (δ.set i (.gx (.bu a l n f [])))) .mk
def wBuApp (i : Nat) (n f : Str) (w : DE) : DTS := fun E δ => buC δ[i]? n f (fun _ l0 _ => w δ fun o δ1 => lk o δ1 fun y δ2 => buC δ2[i]? n f (fun a l xs => l = l0 ∧ xs.length ≤ 1000000 ∧ E.nx (δ2.set i (.gx (.bu a l n f (xs ++ [y]))))) .mk) .mk
def wBuFn (p : PN) (i : Nat) (n f : Str) : DE := fun δ R => buC δ[i]? n f (fun _ _ xs => p [.list xs] fun z => R (.d z) δ) .mk
omit [Tb] in
@[simp ↓] theorem wBuNew_ap (i : Nat) (n f : Str) (E : DEnds) (δ : DS) : wBuNew i n f E δ = b0C δ[i]? n (fun a => ∀ l, E.nx (δ.set i (.gx (.bu a l n f [])))) .mk := rfl
omit [Tb] in
@[simp ↓] theorem wBuApp_ap (i : Nat) (n f : Str) (w : DE) (E : DEnds) (δ : DS) : wBuApp i n f w E δ = buC δ[i]? n f (fun _ l0 _ => w δ fun o δ1 => lk o δ1 fun y δ2 => buC δ2[i]? n f (fun a l xs => l = l0 ∧ xs.length ≤ 1000000 ∧ E.nx (δ2.set i (.gx (.bu a l n f (xs ++ [y]))))) .mk) .mk := rfl
omit [Tb] in
@[simp ↓] theorem wBuFn_ap (p : PN) (i : Nat) (n f : Str) (δ : DS) (R : Opd → DS → Prop) : wBuFn p i n f δ R = buC δ[i]? n f (fun _ _ xs => p [.list xs] fun z => R (.d z) δ) .mk := rfl
omit [Tb] in
@[simp ↓] theorem obHead_bu (a l : Addr) (n f mn : Str) (xs : List PyData) (δ : DS) (i : Nat) (h : δ[i]? = some (.gx (.bu a l n f xs))) : obHead (.s i) δ n mn = ((mn == f) = false) :=
  propext ⟨fun q => by
    rcases q with ⟨_, _, e, _⟩ | ⟨_, _, _, _, e, q⟩
    · rw [h] at e; cases e
    · rw [h] at e; cases e; exact q, fun q => .inr ⟨a, l, f, xs, h, q⟩⟩
section
variable {X : Cx} {C : Addr} {n x fl : Str} {pos px p1 p2 apos cpos : Pos} {i : Nat} {e : Expr} {w : DE}
end
end DL
set_option Elab.async false
set_option linter.all false
set_option maxRecDepth 100000
set_option maxHeartbeats 4000000
namespace DL
open PySem PySem.Spec PyProof.Rows L2
variable [Tb]
section
variable {P : Program} {w : World} {A : Around} {E : Value → Shared → Prop} {s : Shared}
end
def soD (x : PyData) (k : PyData → Prop) : Prop := match x with
  | .list ds => ∃ ns : List Int, ds = ns.map PyData.int ∧ ns.length ≤ 1000 ∧ (∃ D : List Int, D.length < 64 ∧ ∀ j ∈ ns, j ∈ D) ∧ ∀ L : List Int, L.Pairwise (· < ·) → (∀ j, j ∈ L ↔ j ∈ ns) → k (.list (L.map PyData.int))
  | _ => False
omit [Tb] in
@[simp ↓] theorem soD_l (ds : List PyData) (k : PyData → Prop) : soD (.list ds) k = ∃ ns : List Int, ds = ns.map PyData.int ∧ ns.length ≤ 1000 ∧ (∃ D : List Int, D.length < 64 ∧ ∀ j ∈ ns, j ∈ D) ∧ ∀ L : List Int, L.Pairwise (· < ·) → (∀ j, j ∈ L ↔ j ∈ ns) → k (.list (L.map PyData.int)) := rfl
def wSoSet (w : DE) : DE := fun δ R => w δ fun o δ1 => use o δ1 fun x => soD x fun z => R (.d z) δ1
omit [Tb] in
@[simp ↓] theorem wSoSet_ap (w : DE) (δ : DS) (R : Opd → DS → Prop) : wSoSet w δ R = (w δ fun o δ1 => use o δ1 fun x => soD x fun z => R (.d z) δ1) := rfl
section
variable {X : Cx} {e : Expr} {w : DE}
end
end DL
set_option Elab.async false
set_option linter.all false
set_option maxRecDepth 100000
set_option maxHeartbeats 4000000
namespace DL
open PySem PySem.Spec PyProof.Rows L2
section
variable {X : Cx}
end
end DL
set_option Elab.async false
set_option linter.all false
set_option maxRecDepth 100000
set_option maxHeartbeats 4000000
namespace DL
open PySem PySem.Spec PyProof.Rows L2
variable [Tb]
def prK (kvs : KVs) : List PyData := kvs.map fun p => .tuple [.tuple (p.1.map PyData.int), p.2]
omit [Tb] in
theorem prK_inj : ∀ {a b : KVs}, prK a = prK b → a = b
  | [], [], _ => rfl
  | [], _ :: _, h => by cases h
  | _ :: _, [], h => by cases h
  | p :: a, q :: b, h => by
    obtain ⟨h1, h2⟩ := List.cons.inj (show PyData.tuple [.tuple (p.1.map PyData.int), p.2] :: prK a = PyData.tuple [.tuple (q.1.map PyData.int), q.2] :: prK b from h)
    obtain ⟨h3, h4⟩ := List.cons.inj (PyData.tuple.inj h1)
    rw [prK_inj h2, show p = q from Prod.ext (map_int_inj (PyData.tuple.inj h3)) (List.cons.inj h4).1]
def dOf (x : PyData) (k : KVs → Prop) (_u : Stop k) : Prop := ∃ kvs, (x = .list (prK kvs) ∨ x = .tuple (prK kvs)) ∧ (kvs.map (·.1)).Nodup ∧ (∀ p ∈ kvs, p.1 ≠ []) ∧ k kvs
omit [Tb] in
@[simp ↓] theorem dOf_l (kvs : KVs) (k : KVs → Prop) (u : Stop k) : dOf (.list (prK kvs)) k u = ((kvs.map (·.1)).Nodup ∧ (∀ p ∈ kvs, p.1 ≠ []) ∧ k kvs) :=
  propext ⟨fun ⟨ks, e, h⟩ => e.elim (fun e => by rw [prK_inj (PyData.list.inj e)]; exact h) (fun e => nomatch e), fun h => ⟨kvs, .inl rfl, h⟩⟩
omit [Tb] in
@[simp ↓] theorem dOf_t (kvs : KVs) (k : KVs → Prop) (u : Stop k) : dOf (.tuple (prK kvs)) k u = ((kvs.map (·.1)).Nodup ∧ (∀ p ∈ kvs, p.1 ≠ []) ∧ k kvs) :=
  propext ⟨fun ⟨ks, e, h⟩ => e.elim (fun e => nomatch e) (fun e => by rw [prK_inj (PyData.tuple.inj e)]; exact h), fun h => ⟨kvs, .inr rfl, h⟩⟩
section
variable {X : Cx}
def pDictF : PN := one fun x R => dOf x (fun kvs => R (dTD kvs)) .mk
def mDict (w : DA) : DM := fun δ R => w δ fun os δ1 => useL os δ1 fun xs => one (fun x _ => dOf x (fun kvs => ∀ a, R (.od a kvs) δ1) .mk) xs (fun _ => True)
def dtC (c : Option Cell) (k : KVs → Prop) (_u : Stop k) : Prop := ∃ kvs, ((∃ a, c = some (.od a kvs)) ∨ c = some (.d (dTD kvs))) ∧ k kvs
omit [Tb] in
@[simp ↓] theorem dtC_d (kvs : KVs) (k : KVs → Prop) (u : Stop k) : dtC (some (.d (dTD kvs))) k u = k kvs :=
  propext ⟨fun ⟨ks, e, h⟩ => e.elim (fun ⟨_, e⟩ => nomatch e) (fun e => by rw [dTD_inj (Cell.d.inj (Option.some.inj e))]; exact h), fun h => ⟨kvs, .inr rfl, h⟩⟩
omit [Tb] in
@[simp ↓] theorem dtC_od (a : Addr) (kvs : KVs) (k : KVs → Prop) (u : Stop k) : dtC (some (.od a kvs)) k u = k kvs :=
  propext ⟨fun ⟨ks, e, h⟩ => e.elim (fun ⟨_, e⟩ => by cases e; exact h) (fun e => nomatch e), fun h => ⟨kvs, .inl ⟨a, rfl⟩, h⟩⟩
variable {e f : Expr} {pos pos' px apos cpos : Pos} {x : Str} {i : Nat}
def wTGet (i : Nat) (w : DE) : DE := fun δ R => dtC δ[i]? (fun _ => True) .mk ∧ w δ fun o δ1 => use o δ1 fun x => keyOf x (fun k => dtC δ1[i]? (fun kvs => onS (valD kvs k) (fun y => R (.d y) δ1) .mk) .mk) .mk
def wTGetC (i : Nat) (w u : DE) : DE := fun δ R => dtC δ[i]? (fun _ => True) .mk ∧ w δ fun o δ1 => u δ1 fun o2 δ2 => use o δ2 fun x => keyOf x (fun k => lk o2 δ2 fun y δ3 => dtC δ3[i]? (fun kvs => R (.d ((valD kvs k).getD y)) δ3) .mk) .mk
def wTIn (i : Nat) (w : DE) : DE := fun δ R => w δ fun o δ1 => use o δ1 fun x => keyOf x (fun k => dtC δ1[i]? (fun kvs => R (.d (.bool (valD kvs k).isSome)) δ1) .mk) .mk
def wTNotIn (i : Nat) (w : DE) : DE := fun δ R => w δ fun o δ1 => use o δ1 fun x => keyOf x (fun k => dtC δ1[i]? (fun kvs => R (.d (.bool (!(valD kvs k).isSome))) δ1) .mk) .mk
theorem DnK.some {K : PySem.W.Frag} {G : Hp} {ws : List (List Key × V)} {kvs : KVs} (d : DnK K G ws kvs) (k : List Int) : (valV ws (keyI k)).isSome = (valD kvs k).isSome := by
  rcases d.val k with ⟨q1, q2⟩ | ⟨x, v, q1, q2, _⟩ <;> rw [q1, q2] <;> rfl
def dT_of (x : PyData) (k : KVs → Prop) (_u : Stop k) : Prop := ∃ kvs, x = dTD kvs ∧ k kvs
omit [Tb] in
@[simp ↓] theorem dT_of_d (kvs : KVs) (k : KVs → Prop) (u : Stop k) : dT_of (dTD kvs) k u = k kvs :=
  propext ⟨fun ⟨ks, e, h⟩ => by rw [dTD_inj e]; exact h, fun h => ⟨kvs, rfl, h⟩⟩
def pInT : P2 := fun x y R => keyOf x (fun k => dT_of y (fun kvs => R (.bool (valD kvs k).isSome)) .mk) .mk
def pNotInT : P2 := fun x y R => keyOf x (fun k => dT_of y (fun kvs => R (.bool (!(valD kvs k).isSome))) .mk) .mk
omit [Tb] in
@[simp ↓] theorem pInT_ap (x y : PyData) (R : PyData → Prop) : pInT x y R = keyOf x (fun k => dT_of y (fun kvs => R (.bool (valD kvs k).isSome)) .mk) .mk := rfl
omit [Tb] in
@[simp ↓] theorem pNotInT_ap (x y : PyData) (R : PyData → Prop) : pNotInT x y R = keyOf x (fun k => dT_of y (fun kvs => R (.bool (!(valD kvs k).isSome))) .mk) .mk := rfl
end
omit [Tb] in
@[simp ↓] theorem pDictF_ap (x : PyData) (R : PyData → Prop) : pDictF [x] R = dOf x (fun kvs => R (dTD kvs)) .mk := rfl
omit [Tb] in
@[simp ↓] theorem wTIn_ap (i : Nat) (w : DE) (δ : DS) (R : Opd → DS → Prop) : wTIn i w δ R = (w δ fun o δ1 => use o δ1 fun x => keyOf x (fun k => dtC δ1[i]? (fun kvs => R (.d (.bool (valD kvs k).isSome)) δ1) .mk) .mk) := rfl
omit [Tb] in
@[simp ↓] theorem wTNotIn_ap (i : Nat) (w : DE) (δ : DS) (R : Opd → DS → Prop) : wTNotIn i w δ R = (w δ fun o δ1 => use o δ1 fun x => keyOf x (fun k => dtC δ1[i]? (fun kvs => R (.d (.bool (!(valD kvs k).isSome))) δ1) .mk) .mk) := rfl
omit [Tb] in
@[simp ↓] theorem wTGet_ap (i : Nat) (w : DE) (δ : DS) (R : Opd → DS → Prop) : wTGet i w δ R = (dtC δ[i]? (fun _ => True) .mk ∧ w δ fun o δ1 => use o δ1 fun x => keyOf x (fun k => dtC δ1[i]? (fun kvs => onS (valD kvs k) (fun y => R (.d y) δ1) .mk) .mk) .mk) := rfl
omit [Tb] in
@[simp ↓] theorem wTGetC_ap (i : Nat) (w u : DE) (δ : DS) (R : Opd → DS → Prop) : wTGetC i w u δ R = (dtC δ[i]? (fun _ => True) .mk ∧ w δ fun o δ1 => u δ1 fun o2 δ2 => use o δ2 fun x => keyOf x (fun k => lk o2 δ2 fun y δ3 => dtC δ3[i]? (fun kvs => R (.d ((valD kvs k).getD y)) δ3) .mk) .mk) := rfl
omit [Tb] in
@[simp ↓] theorem mDict_ap (w : DA) (δ : DS) (R : Cell → DS → Prop) : mDict w δ R = (w δ fun os δ1 => useL os δ1 fun xs => one (fun x _ => dOf x (fun kvs => ∀ a, R (.od a kvs) δ1) .mk) xs (fun _ => True)) := rfl
end DL
set_option Elab.async false
set_option linter.all false
set_option maxRecDepth 100000
set_option maxHeartbeats 4000000
namespace DL
open PySem PySem.Spec PyProof.Rows L2
section
variable {prog : Program} {w : World} {A : Around} {E : Value → Shared → Prop} {s : Shared} {T : String} {r d : Addr} {n : Nat} {P : Nat → Value → Prop} {OK : Heap → Prop} {Q : Value → Shared → Prop}
end
variable [Tb]
def keysD (kvs : KVs) : List PyData := kvs.map fun p => .tuple (p.1.map PyData.int)
def pSortedT : PN := one fun x R => dT_of x (fun kvs => W.AllAlike (keysD kvs) ∧ W.Sortable (keysD kvs) ∧ kvs.length ≤ 1000000 ∧ (∀ p ∈ kvs, p.1 ≠ []) ∧ R (.list (sortD (keysD kvs)))) .mk
omit [Tb] in
@[simp ↓] theorem pSortedT_ap (x : PyData) (R : PyData → Prop) : pSortedT [x] R = dT_of x (fun kvs => W.AllAlike (keysD kvs) ∧ W.Sortable (keysD kvs) ∧ kvs.length ≤ 1000000 ∧ (∀ p ∈ kvs, p.1 ≠ []) ∧ R (.list (sortD (keysD kvs)))) .mk := rfl
section
variable {X : Cx}
end
end DL
set_option Elab.async false
set_option linter.all false
set_option maxRecDepth 100000
set_option maxHeartbeats 4000000
namespace DL
open PySem PySem.Spec PyProof.Rows L2
mutual
theorem reads_lt {h : Heap} : ∀ {v : Value} {d : PyData} {as : List Addr}, Reads h v d as → ∀ a ∈ as, a < h.objs.size
  | _, _, _, .none => fun _ h => nomatch h
  | _, _, _, .bool _ => fun _ h => nomatch h
  | _, _, _, .int _ _ => fun _ h => nomatch h
  | _, _, _, .str _ _ => fun _ h => nomatch h
  | _, _, _, .list h1 h2 h3 h4 => fun a ha => by
    rcases List.mem_cons.mp ha with rfl | ha
    · exact Heap.lt_size h1
    · exact readsAll_lt h4 a ha
  | _, _, _, .tuple h1 h2 h3 h4 => fun a ha => readsAll_lt h4 a ha
  | _, _, _, .dict h1 h2 h3 h4 h5 => fun a ha => by
    rcases List.mem_append.mp ha with ha | ha
    · rcases List.mem_cons.mp ha with rfl | ha
      · exact Heap.lt_size h1
      · exact readsAll_lt h4 a ha
    · exact readsAll_lt h5 a ha
theorem readsAll_lt {h : Heap} : ∀ {vs : List Value} {ds : List PyData} {as : List Addr}, ReadsAll h vs ds as → ∀ a ∈ as, a < h.objs.size
  | _, _, _, .nil => fun _ h => nomatch h
  | _, _, _, .cons h1 h2 => fun a ha => by
    rcases List.mem_append.mp ha with ha | ha
    · exact reads_lt h1 a ha
    · exact readsAll_lt h2 a ha
end
section
variable {prog : Program} {w : World} {A : Around} {E : Value → Shared → Prop} {s : Shared} {Q : Value → Shared → Prop}
end
variable [Tb]
def pSortedU : PN := one fun x R => match x with
  | .tuple ds => W.AllAlike ds ∧ W.Sortable ds ∧ ds.length ≤ 1000000 ∧ (∀ d ∈ ds, d.depth ≤ 50) ∧ R (.list (sortD ds))
  | _ => False
omit [Tb] in
@[simp ↓] theorem pSortedU_t (ds : List PyData) (R : PyData → Prop) : pSortedU [.tuple ds] R = (W.AllAlike ds ∧ W.Sortable ds ∧ ds.length ≤ 1000000 ∧ (∀ d ∈ ds, d.depth ≤ 50) ∧ R (.list (sortD ds))) := rfl
section
variable {X : Cx}
end
end DL
set_option Elab.async false
set_option linter.all false
set_option maxRecDepth 100000
set_option maxHeartbeats 4000000
namespace DL
open PySem PySem.Spec PyProof.Rows L2
variable [Tb]
def pSumT : PN := one fun x R => match x with
  | .tuple ds => onIs ds (fun ns => R (.int ns.sum)) .mk
  | _ => False
omit [Tb] in
@[simp ↓] theorem pSumT_t (ds : List PyData) (R : PyData → Prop) : pSumT [.tuple ds] R = onIs ds (fun ns => R (.int ns.sum)) .mk := rfl
section
variable {X : Cx}
end
end DL
set_option Elab.async false
set_option linter.all false
set_option maxRecDepth 100000
set_option maxHeartbeats 4000000
namespace DL
open PySem PySem.Spec PyProof.Rows L2
variable [Tb]
def wIsi2 (T U : String) (w : DE) : DE := fun δ R => w δ fun o δ1 => use o δ1 fun x => (tyName x ≠ "object" ∧ tyName x ≠ "dict") ∧ R (.d (.bool (isTy T x || isTy U x))) δ1
omit [Tb] in
@[simp ↓] theorem wIsi2_ap (T U : String) (w : DE) (δ : DS) (R : Opd → DS → Prop) : wIsi2 T U w δ R = (w δ fun o δ1 => use o δ1 fun x => (tyName x ≠ "object" ∧ tyName x ≠ "dict") ∧ R (.d (.bool (isTy T x || isTy U x))) δ1) := rfl
section
variable {X : Cx}
end
end DL
set_option Elab.async false
set_option linter.all false
set_option maxRecDepth 100000
set_option maxHeartbeats 4000000
namespace DL
open PySem PySem.Spec PyProof.Rows L2 PySem.W PySem.Calls
variable [Tb]
structure ExcInitC (P : Program) (K : PySem.W.Frag) (C fI : Addr) (ps : List Str) : Prop where
  T : OexC K C
  cd : ∃ cdD, clsIn K C = some cdD
  sub : mroIn K C (.ref C) = some true
  opq : nsIn K cStatics "thirdparty.any" = some none
  ini : ks_superIn K C C "__init__" = some (some (.builtin "ValueError.__init__"))
  ve : subIn K (.ref C) (.type "ValueError") = some true
section
variable {prog : Program} {w : World} {A : Around} {E : Value → Shared → Prop} {s : Shared} {K : PySem.W.Frag}
theorem wp_super_init {body : List Stmt} {q : Str} {scope : Scope} {L f cda cc C e t0 : Addr} {fd : FuncData} {ar : Arg} {vs : Array Value} {file : Str} {tf : Tok} {oc ccl cl : Value} {od cdd cld : Option Addr} {osl ccs csl : Array (Option Value)} {p0 p1 p4 : Pos} {ex : Expr} {es : List Expr} {us : List Value} {m mg mb : Str → Option Value} {ps : List Str} {fI : Addr} {whole : Sem Value} {pl : Sem Bool} {Q : Value → Shared → Prop}
    (X : K.In s.heap) (T : ExcInitC prog K C fI ps) (hm : s.heap.Ns L m) (hG : s.heap.Ns mainGlobals mg) (hsm : mg "super" = none) (hB : s.heap.Ns builtinsNs mb) (hsb : mb "super" = some (.type "super"))
    (hf : K.lookup f = some ⟨oc, od, .func fd, osl⟩) (hp : (fd.params.posonlyargs ++ fd.params.args).head? = some ar) (hv : m ar.arg = some (.ref e)) (he : s.heap.get? e = some (HandSPX.excO C t0))
    (hcode : K.lookup cda = some ⟨ccl, cdd, .fields vs, ccs⟩) (hvs : vs[2]? = some (.str file tf)) (hfile : ((prog.main.file : Str) == file) = true)
    (hcell : K.lookup cc = some ⟨cl, cld, .cell (some (.ref C)), csl⟩)
    (hks : scope.names.lookup ("super" : Str) = some .globalImplicit) (hkc : scope.names.lookup ("__class__" : Str) = some .free) (hka : scope.names.lookup ar.arg = some .local) (hk : scope.kind = .function)
    (htop : (prog.main.scope.names.lookup ("super" : Str)).isSome = false) (hus : us.length ≤ 1000) (hst : starEach (ex :: es) (ksEnv q scope L f (.ref cda) cc) = (false, eval ex (ksEnv q scope L f (.ref cda) cc)) :: starEach es (ksEnv q scope L f (.ref cda) cc)) (hpl : (backTo p4 (starEach es (ksEnv q scope L f (.ref cda) cc))).any (·.1) = false)
    (hsp : ∀ (s1 : Shared) (Q : List Value → Shared → Prop), s1.heap.Ns L m → Q us s1 → wpAny (model prog w) A (spliced (backTo p4 (starEach (ex :: es) (ksEnv q scope L f (.ref cda) cc)))) Q E s1)
    (h : ∀ h' t', (∀ b o, b ≠ e → s.heap.get? b = some o → h'.get? b = some o) → (∃ t1, h'.get? e = some (HandSPX.excO C t1)) → Q .none { s with heap := h', toks := t' }) :
    _root_.PySem.wpAt (model prog w) A (.func body (ksEnv q scope L f (.ref cda) cc)) (attributeBase (.Call (.Name "super" p0) [] [] p1) "__init__" (ksEnv q scope L f (.ref cda) cc) whole)
      (fun ov s₁ => wpAny (model prog w) A (getMethod ov "__init__" pl) (fun fx s₂ => wpAny (model prog w) A (callWith p4 fx.1 fx.2 (backTo p4 (starEach (ex :: es) (ksEnv q scope L f (.ref cda) cc))) []) Q E s₂) E s₁) E s := by
  obtain ⟨nm, q', N, bs, bm, sn, sub, ab, col, dd, k0, k1, k2, k3, k5, hC, hbm⟩ := T.T.cls
  obtain ⟨cdD, hD⟩ := T.cd
  obtain ⟨hh, g, d, t, os⟩ := s
  obtain ⟨oD, hD1, hD2⟩ : ∃ oD, hh.get? C = some oD ∧ oD.data = .cls cdD := by
    unfold clsIn at hD
    split at hD
    · rename_i c d cd' sl ho
      cases hD
      exact ⟨_, X _ _ ho, rfl⟩
    · cases hD
  have eC : e ≠ C := fun z => by
    rw [z] at he
    rw [hD1] at he
    cases he
    cases hD2
  have hini := T.ini
  unfold ks_superIn at hini
  rw [hD] at hini
  refine ks_wpAt_super_base (env := ksEnv q scope L f (.ref cda) cc) hks hkc (by decide) rfl (X _ _ hf) rfl hp rfl (X _ _ hcode) rfl hvs hfile htop ?_
  refine ks_loadName_global hk hks (loadGlobal_builtin (env := ksEnv q scope L f (.ref cda) cc) hG hsm hB hsb ⟨rfl, ?_⟩)
  refine wpAny_loadName_free hk hkc rfl ⟨_, X _ _ hcell, rfl⟩ ?_
  refine wpAny_loadName_local hk hka hm hv ?_
  refine ks_wpAny_isType_cls hD1 hD2 ⟨rfl, ?_⟩
  refine ks_wpAny_call_super hD1 hD2 he rfl (fun c e => by cases e) (looks_mroIn X T.sub) (fun h1 e1 k1' => ?_)
  have X1 : K.In h1 := X.keeps k1'
  have he1 := k1' _ _ he
  have I1 : InstAt h1 e (HandSPX.excO C t0) C none := ⟨he1, rfl, rfl, trivial⟩
  refine kxs_getMethod kxs_ValueError e1 (looks_opaque X1 T.opq) (l₀ := cdD.mro) (fun A Q E s k q => wpAny_bind ((looks_clsIn X1 hD) A _ E s k (wpAny_pure q))) rfl X1 hini (I1.type.andThen (looks_subIn X1 T.ve)) eC (by decide) ?_
  have hm1 : h1.Ns L m := hm.keeps k1'
  have kk : ∀ b o, h1.get? b = some o → (h1.push (kxs_mw "ValueError.__init__" e)).get? b = some o := fun b o z => Heap.get?_push_of_some _ z
  have hu : (h1.push (kxs_mw "ValueError.__init__" e)).get? h1.objs.size = some (kxs_mw "ValueError.__init__" e) := Heap.get?_push_at rfl rfl
  rw [hst]
  refine kxs_callWith (i := "ValueError.__init__") (x := e) (by show (false || (backTo p4 (starEach es (ksEnv q scope L f (.ref cda) cc))).any (·.1)) = false; rw [hpl]; rfl) ?_
  refine evalArgs_plain ?_
  rw [hst] at hsp
  refine hsp _ _ (hm1.keeps kk) ⟨hu, ?_⟩
  show wpAny _ _ (call (.ref h1.objs.size) us) _ _ _
  refine wpAny_call (codeAny_of_tree ?_)
  show wpAny _ A.in1 (callAny (.ref h1.objs.size) ⟨us, []⟩) _ _ _
  simp only [callAny]
  refine wpAny_bind (wpAny_load hu ?_)
  simp only [kxs_mw, show (Value.type "method-wrapper" == Value.type "method" || Value.type "method-wrapper" == Value.type "builtin_function_or_method" || Value.type "method-wrapper" == Value.type "method-wrapper") = true by decide, if_true]
  refine KFB.if_so (by decide) ?_
  refine wpAny_bind (check_bound_init (F.excBase_ValueError).toExcCallFacts (kk _ _ (X1 _ _ hC)) (kk _ _ he1) rfl ?_)
  refine wpAny_bind (wpAny_pure (wpAny_pure ?_))
  refine ⟨plainId_quiet (F.excBase_ValueError).init.plain _, codeAny_builtin (F.excBase_ValueError).initEntry ?_⟩
  refine exc_init_tree (cls := .ref C) (t0 := t0) (dv := none) (c2 := .none) (c3 := .none) (b4 := .bool false) (kk _ _ he1) (by rw [sizeLine_eq]; omega) fun h3 k3' e3 _ => ?_
  exact h h3 _ (fun b o hb z => k3' b o hb (kk _ _ (k1' _ _ z))) ⟨_, e3⟩
end
end DL
set_option Elab.async false
set_option linter.all false
set_option maxRecDepth 100000
set_option maxHeartbeats 4000000
namespace DL
open PySem PySem.Spec PyProof.Rows L2 PySem.W PySem.Calls NdefX
variable [Tb]
section
variable {P : Program} {w : World} {K : PySem.W.Frag} {mg : Str → Option Value} {base : Heap}
theorem init_okG {k : Nat} {C fI cda cc : Addr} {name qual file : Str} {tf : Tok} {params : Arguments} {scope : Scope} {N ps : List Str} {sp : Sp} {ar : Arg} {ex : Expr} {es : List Expr} {rest : List Stmt} {p0 p1 p2 p4 p5 : Pos} {oc ct ccl cl doc pm : Value} {an od cdd cld : Option Addr} {osl ccs csl : Array (Option Value)} {cvs : Array Value} {ips : List Str}
    (T : ExcInitC P K C fI ips)
    (lk : K.lookup fI = some ⟨oc, od, .func (fnX name qual params (.Expr (.Call (.Attribute (.Call (.Name "super" p0) [] [] p1) "__init__" p2) (ex :: es) [] p4) p5 :: rest) scope [("__class__", cc)] .none .none doc pm an (.ref cda) ct), osl⟩)
    (hcd : codeIn K (.ref cda) qual = true) (hcode : K.lookup cda = some ⟨ccl, cdd, .fields cvs, ccs⟩) (hvs : cvs[2]? = some (.str file tf)) (hfile : ((P.main.file : Str) == file) = true)
    (hcell : K.lookup cc = some ⟨cl, cld, .cell (some (.ref C)), csl⟩) (hsm : mg "super" = none)
    (S : NScope N ps ["__class__"] scope) (hp : (params.posonlyargs ++ params.args).head? = some ar) (har : ps.head? = some ar.arg) (hnd : ps.Nodup)
    (hks : scope.names.lookup ("super" : Str) = some .globalImplicit) (htop : (P.main.scope.names.lookup ("super" : Str)).isSome = false)
    (hst : ∀ L, starEach (ex :: es) (ksEnv qual scope L fI (.ref cda) cc) = (false, eval ex (ksEnv qual scope L fI (.ref cda) cc)) :: starEach es (ksEnv qual scope L fI (.ref cda) cc))
    (hpl : ∀ L, (backTo p4 (starEach es (ksEnv qual scope L fI (.ref cda) cc))).any (·.1) = false)
    (hargs : ∀ (us : List Value) (A : Around) (L : Addr) (s1 : Shared) (Q : List Value → Shared → Prop) (E : Value → Shared → Prop), us.length = ps.length → s1.heap.Ns L (fun y => (ps.zip us).reverse.lookup y) → Q us.tail s1 → wpAny (model P w) A (spliced (backTo p4 (starEach (ex :: es) (ksEnv qual scope L fI (.ref cda) cc)))) Q E s1)
    (hev : ∀ L, ∃ pl, eval (.Call (.Attribute (.Call (.Name "super" p0) [] [] p1) "__init__" p2) (ex :: es) [] p4) (ksEnv qual scope L fI (.ref cda) cc) = (do
      let ov ← attributeBase (.Call (.Name "super" p0) [] [] p1) "__init__" (ksEnv qual scope L fI (.ref cda) cc) (eval (.Call (.Name "super" p0) [] [] p1) (ksEnv qual scope L fI (.ref cda) cc))
      standAt p2.atName
      let (f, first) ← holding [ov] (getMethod ov "__init__" pl)
      callWith p4 f first (backTo p4 (starEach (ex :: es) (ksEnv qual scope L fI (.ref cda) cc))) []))
    (hsw : ∀ L, swapsWith (.Call (.Attribute (.Call (.Name "super" p0) [] [] p1) "__init__" p2) (ex :: es) [] p4) none p5.line (ksEnv qual scope L fI (.ref cda) cc) = pure false)
    (hin : ∀ L, interactive (ksEnv qual scope L fI (.ref cda) cc) = false)
    (hspl : ∀ vs H Q E, sp vs H Q E → vs.length = ps.length ∧ ps.length ≤ 1000 ∧ ∃ a r, vs = .ref a :: r ∧ H a = some (exo a C none))
    (hrest : ∀ (A : Around) (outer : List Env) (s : Shared) (H : Hp) (vs : List V) (Q : VK) (E : XK), sp vs H Q E →
      ∃ t, PSs (ncx CX0 P w K mg base N ⟨name, qual, params, .Expr (.Call (.Attribute (.Call (.Name "super" p0) [] [] p1) "__init__" p2) (ex :: es) [] p4) p5 :: rest, scope, [("__class__", cc)], cda⟩ fI A outer s H E) rest t ∧ t { nx := fun _ H' => Q .non H', rt := Q } (startF N vs [none]) H) :
    FnOk P w K mg base CX0 (k + 1) fI (fnX name qual params (.Expr (.Call (.Attribute (.Call (.Name "super" p0) [] [] p1) "__init__" p2) (ex :: es) [] p4) p5 :: rest) scope [("__class__", cc)] .none .none doc pm an (.ref cda) ct) ps sp := by
  refine ⟨fun vs H Q E h => (hspl vs H Q E h).1, fun A outer s H args us vs Q E hr e0 hb r hsp => ?_⟩
  obtain ⟨hl, hn, a, rvs, ev, ea⟩ := hspl _ _ _ _ hsp
  have X : K.In s.heap := e0.mod.kin.keeps fun b o e => (e0.bs b o e).1
  have lim : s.heap.NoLimit := e0.mod.nolimit.keeps fun b o e => (e0.bs b o e).1
  have hul : us.length = ps.length := by rw [← r.length]; exact hl
  obtain ⟨t, ht, hq⟩ := hrest A outer s H vs Q E hsp
  obtain ⟨us0, ur, eus, ru0⟩ : ∃ u0 ur, us = u0 :: ur ∧ u0 = Value.ref a := by
    rw [ev] at r
    cases r with
    | @cons _ u0 _ ur ra rw' => exact ⟨u0, ur, rfl, ra⟩
  subst ru0
  refine ks_codeAny_call_defAt hr.depth (X _ _ lk) rfl lim (PySem.W.codeRec_of X hcd) rfl hb S.nocell (fun ⟨n, _⟩ hy => S.par n (List.of_mem_zip hy).1) (fun h₁ hns kp => ?_) S.co S.gen S.kind
  show _root_.PySem.wpAt (model P w) (A.deeper (ksEnv qual scope s.heap.objs.size fI (.ref cda) cc)) (.func _ (ksEnv qual scope s.heap.objs.size fI (.ref cda) cc)) (execs _ (ksEnv qual scope s.heap.objs.size fI (.ref cda) cc)) _ _ _
  have C0 : CellsAt [("__class__", cc)] ["__class__"] [none] s.heap H := by
    obtain ⟨o1, o2⟩ : (∃ o, base.get? cc = some o ∧ o = ⟨cl, cld, .cell (some (.ref C)), csl⟩) ∧ H cc = none := ⟨⟨_, e0.mod.kin _ _ hcell, rfl⟩, (e0.bs _ _ (e0.mod.kin _ _ hcell)).2⟩
    refine ⟨rfl, fun y c e => ?_, fun x y c e1 e2 => ?_, fun i y e => ?_⟩
    · have : c = cc := by
        simp only [List.lookup] at e
        split at e
        · exact (Option.some.inj e).symm
        · cases e
      subst this
      exact ⟨o2, _, _, X _ _ hcell, rfl⟩
    · have key : ∀ {z : Str}, List.lookup z [(("__class__" : Str), cc)] = some c → z = "__class__" := fun {z} e => by
        simp only [List.lookup] at e
        split at e
        · rename_i q; simpa using q
        · cases e
      rw [key e1, key e2]
    · cases i with
      | zero =>
        have : y = "__class__" := by simpa using e.symm
        subst this
        exact ⟨cc, by simp [List.lookup], fun v e => by simp at e⟩
      | succ i => simp at e
  have I : Inv (ncx CX0 P w K mg base N ⟨name, qual, params, .Expr (.Call (.Attribute (.Call (.Name "super" p0) [] [] p1) "__init__" p2) (ex :: es) [] p4) p5 :: rest, scope, [("__class__", cc)], cda⟩ fI A outer s H E) [] (startF N vs [none]) H { s with heap := h₁, toks := s.toks + (ps.zip us).length } := inv_startN S hr.hd e0 hl r C0 hns kp
  obtain ⟨t1, hoe⟩ := exo_at I.hok ea
  obtain ⟨mb, hB, hbs⟩ := e0.mod.blt
  obtain ⟨pl, he⟩ := hev s.heap.objs.size
  refine ks_wpAt_execs_cons (ks_wpAt_Expr_any (ks_wpAt_MethodCall ?_ he) (hin _) (hsw _))
  have kb : ∀ b o, base.get? b = some o → h₁.get? b = some o := fun b o e => kp _ _ (e0.bs b o e).1
  refine wp_super_init (m := fun y => (ps.zip us).reverse.lookup y) (mg := mg) (mb := mb) (us := ur) (e := a) (t0 := t1) (L := s.heap.objs.size) (X.keeps kp) T hns (e0.mod.glob.keeps kb) hsm (hB.keeps kb) (by rw [hbs _ (by decide)]; rfl) lk hp ?_ hoe hcode hvs hfile hcell hks (S.frk _ (by simp)) (S.par _ (List.mem_of_head? har)) S.kind htop (by have : us.length = ps.length := hul; rw [eus] at this; simp at this; omega) (hst _) (hpl _) (fun s1 Q2 hn2 q2 => hargs us _ _ s1 Q2 _ hul hn2 (by rw [eus]; exact q2)) ?_
  · rw [eus]
    cases ps with
    | nil => cases har
    | cons p0' ps' =>
      have : p0' = ar.arg := Option.some.inj har
      subst this
      exact zip_look (i := 0) hnd rfl rfl
  · intro h' t' kk ⟨t2, he'⟩
    refine wpAt_of_wpAny ?_
    have J := I.write (t' := t') (x := a) (e := a) (o := exo a C none) (by rw [ea]; exact True.intro) (.inl rfl) (fun b o e1 e2 => kk b o e1 e2) ⟨_, he'⟩ (exo_ok he')
    have eu : upd H a (exo a C none) = H := by
      funext b
      by_cases hb : b = a
      · rw [hb, upd_same, ea]
      · rw [upd_ne hb]
    rw [eu] at J
    refine wpAny_mono (ht.run [] _ (startF N vs [none]) H _ J hq) (fun fl s' hs => ?_) fun e s' hs => hs
    have fin : ∀ {σ' : L2.St} {H' : Hp} {v : V} {u : Value}, Inv (ncx CX0 P w K mg base N ⟨name, qual, params, .Expr (.Call (.Attribute (.Call (.Name "super" p0) [] [] p1) "__init__" p2) (ex :: es) [] p4) p5 :: rest, scope, [("__class__", cc)], cda⟩ fI A outer s H E) [] σ' H' s' → L2.RelV v u → Q v H' → CE outer P w H s Q u s' :=
      fun {σ' H' v u} J rv q => ⟨v, H', J.os, J.bare, J.base, J.hok, rv, q⟩
    cases fl with
    | ret u =>
      obtain ⟨v, σ', H', J, rv, q⟩ := hs
      exact fin J rv q
    | next =>
      obtain ⟨σ', H', J, q⟩ := hs
      exact fin (v := V.non) (u := Value.none) J rfl q
    | brk =>
      obtain ⟨_, _, _, q⟩ := hs
      exact False.elim q
    | cont =>
      obtain ⟨_, _, _, q⟩ := hs
      exact False.elim q
def spI1 (C : Addr) (x : Str) : Sp := fun vs H Q _ => ∃ (a : Addr) (v : V), vs = [.ref a, v] ∧ H a = some (exo a C none) ∧ ∀ dx, H dx = none → dx ≠ a → Q .non (upd (upd H dx (exd dx [(x, v)])) a (exo a C (some dx)))
def spI2 (C : Addr) (x y : Str) : Sp := fun vs H Q _ => ∃ (a : Addr) (v u : V), vs = [.ref a, v, u] ∧ H a = some (exo a C none) ∧ ∀ dx, H dx = none → dx ≠ a → Q .non (upd (upd (upd H dx (exd dx [(x, v)])) a (exo a C (some dx))) dx (exd dx [(y, u), (x, v)]))
structure IniC (P : Program) (K : PySem.W.Frag) (mg : Str → Option Value) (C fI cda cc : Addr) (qual : Str) (params : Arguments) (scope : Scope) (N ps : List Str) (ex : Expr) (es : List Expr) (p0 p1 p2 p4 p5 : Pos) : Prop where
  T : ExcInitC P K C fI []
  hcd : codeIn K (.ref cda) qual = true
  hcode : ∃ ccl cdd cvs ccs file tf, K.lookup cda = some ⟨ccl, cdd, .fields cvs, ccs⟩ ∧ cvs[2]? = some (.str file tf) ∧ ((P.main.file : Str) == file) = true
  hcell : ∃ cl cld csl, K.lookup cc = some ⟨cl, cld, .cell (some (.ref C)), csl⟩
  hsm : mg "super" = none
  S : NScope N ps ["__class__"] scope
  hp : ∃ ar, (params.posonlyargs ++ params.args).head? = some ar ∧ ps.head? = some ar.arg
  hnd : ps.Nodup
  hks : scope.names.lookup ("super" : Str) = some .globalImplicit
  htop : (P.main.scope.names.lookup ("super" : Str)).isSome = false
  hst : ∀ L, starEach (ex :: es) (ksEnv qual scope L fI (.ref cda) cc) = (false, eval ex (ksEnv qual scope L fI (.ref cda) cc)) :: starEach es (ksEnv qual scope L fI (.ref cda) cc)
  hpl : ∀ L, (backTo p4 (starEach es (ksEnv qual scope L fI (.ref cda) cc))).any (·.1) = false
  hev : ∀ L, ∃ pl, eval (.Call (.Attribute (.Call (.Name "super" p0) [] [] p1) "__init__" p2) (ex :: es) [] p4) (ksEnv qual scope L fI (.ref cda) cc) = (do
      let ov ← attributeBase (.Call (.Name "super" p0) [] [] p1) "__init__" (ksEnv qual scope L fI (.ref cda) cc) (eval (.Call (.Name "super" p0) [] [] p1) (ksEnv qual scope L fI (.ref cda) cc))
      standAt p2.atName
      let (f, first) ← holding [ov] (getMethod ov "__init__" pl)
      callWith p4 f first (backTo p4 (starEach (ex :: es) (ksEnv qual scope L fI (.ref cda) cc))) [])
  hsw : ∀ L, swapsWith (.Call (.Attribute (.Call (.Name "super" p0) [] [] p1) "__init__" p2) (ex :: es) [] p4) none p5.line (ksEnv qual scope L fI (.ref cda) cc) = pure false
  hin : ∀ L, interactive (ksEnv qual scope L fI (.ref cda) cc) = false
theorem init_ok1 {k : Nat} {C fI cda cc : Addr} {name qual x : Str} {params : Arguments} {scope : Scope} {p0 p1 p2 p3 p4 p5 q0 q1 q2 q3 : Pos} {oc ct doc pm : Value} {an od : Option Addr} {osl : Array (Option Value)}
    (lk : K.lookup fI = some ⟨oc, od, .func (fnX name qual params [.Expr (.Call (.Attribute (.Call (.Name "super" p0) [] [] p1) "__init__" p2) [.Name x p3] [] p4) p5, .Assign [.Attribute (.Name "self" q0) x q1] (.Name x q2) q3] scope [("__class__", cc)] .none .none doc pm an (.ref cda) ct), osl⟩)
    (I : IniC P K mg C fI cda cc qual params scope ["self", x, "__class__"] ["self", x] (.Name x p3) [] p0 p1 p2 p4 p5) (hf : findIn K (.ref C) x = some none) (hdx : (x == ("__debug__" : Str)) = false) (hdc : (x == ("__classdict__" : Str)) = false)
    (hsw : ∀ env : Env, swapsWith (.Name x q2) (some (.Attribute (.Name "self" q0) x q1)) q3.line env = pure false) :
    FnOk P w K mg base CX0 (k + 1) fI (fnX name qual params [.Expr (.Call (.Attribute (.Call (.Name "super" p0) [] [] p1) "__init__" p2) [.Name x p3] [] p4) p5, .Assign [.Attribute (.Name "self" q0) x q1] (.Name x q2) q3] scope [("__class__", cc)] .none .none doc pm an (.ref cda) ct) ["self", x] (spI1 C x) := by
  obtain ⟨ccl, cdd, cvs, ccs, file, tf, c1, c2, c3⟩ := I.hcode
  obtain ⟨cl, cld, csl, c4⟩ := I.hcell
  obtain ⟨ar, a1, a2⟩ := I.hp
  refine init_okG I.T lk I.hcd c1 c2 c3 c4 I.hsm I.S a1 a2 I.hnd I.hks I.htop I.hst I.hpl (fun us A L s1 Q E hl hns q => ?_) I.hev I.hsw I.hin (fun vs H Q E ⟨a, v, e1, e2, _⟩ => ⟨by rw [e1]; rfl, by simp, a, [v], e1, e2⟩) fun A outer s H vs Q E ⟨a, v, e1, e2, q⟩ => ?_
  · match us, hl with
    | [u0, u1], _ =>
      have nd : x ≠ "self" := fun e => by
        have := I.hnd
        rw [e] at this
        simp at this
      refine PyProof.Rows.spliced_more ?_
      refine wpAny_Name (wpAny_loadName_local I.S.kind (I.S.par x (by simp)) hns (zip_look (i := 1) I.hnd rfl rfl) ?_) hdx
      exact spliced_none q
  · refine ⟨_, pss_one (ps_ost (pe_var (i := 0) rfl (.inl (I.S.par "self" (by simp)))) (pe_var (i := 1) rfl (.inl (I.S.par x (by simp))) hdx hdc) (hsw _)), ?_⟩
    subst e1
    refine ⟨v, rfl, .ref a, rfl, a, C, rfl, I.T.T, hf, .inl ⟨e2, fun dx n1 n2 => q dx n1 n2⟩⟩
theorem init_ok2 {k : Nat} {C fI cda cc : Addr} {name qual x y : Str} {params : Arguments} {scope : Scope} {p0 p1 p2 p3 p3' p4 p5 q0 q1 q2 q3 r0 r1 r2 r3 : Pos} {oc ct doc pm : Value} {an od : Option Addr} {osl : Array (Option Value)}
    (lk : K.lookup fI = some ⟨oc, od, .func (fnX name qual params [.Expr (.Call (.Attribute (.Call (.Name "super" p0) [] [] p1) "__init__" p2) [.Name x p3, .Name y p3'] [] p4) p5, .Assign [.Attribute (.Name "self" q0) x q1] (.Name x q2) q3, .Assign [.Attribute (.Name "self" r0) y r1] (.Name y r2) r3] scope [("__class__", cc)] .none .none doc pm an (.ref cda) ct), osl⟩)
    (I : IniC P K mg C fI cda cc qual params scope ["self", x, y, "__class__"] ["self", x, y] (.Name x p3) [.Name y p3'] p0 p1 p2 p4 p5) (hf : findIn K (.ref C) x = some none) (hg : findIn K (.ref C) y = some none) (hdx : (x == ("__debug__" : Str)) = false) (hdc : (x == ("__classdict__" : Str)) = false) (hdx' : (y == ("__debug__" : Str)) = false) (hdc' : (y == ("__classdict__" : Str)) = false)
    (hsw : ∀ env : Env, swapsWith (.Name x q2) (some (.Attribute (.Name "self" q0) x q1)) q3.line env = pure false) (hsw' : ∀ env : Env, swapsWith (.Name y r2) (some (.Attribute (.Name "self" r0) y r1)) r3.line env = pure false) :
    FnOk P w K mg base CX0 (k + 1) fI (fnX name qual params [.Expr (.Call (.Attribute (.Call (.Name "super" p0) [] [] p1) "__init__" p2) [.Name x p3, .Name y p3'] [] p4) p5, .Assign [.Attribute (.Name "self" q0) x q1] (.Name x q2) q3, .Assign [.Attribute (.Name "self" r0) y r1] (.Name y r2) r3] scope [("__class__", cc)] .none .none doc pm an (.ref cda) ct) ["self", x, y] (spI2 C x y) := by
  obtain ⟨ccl, cdd, cvs, ccs, file, tf, c1, c2, c3⟩ := I.hcode
  obtain ⟨cl, cld, csl, c4⟩ := I.hcell
  obtain ⟨ar, a1, a2⟩ := I.hp
  refine init_okG I.T lk I.hcd c1 c2 c3 c4 I.hsm I.S a1 a2 I.hnd I.hks I.htop I.hst I.hpl (fun us A L s1 Q E hl hns q => ?_) I.hev I.hsw I.hin (fun vs H Q E ⟨a, v, u, e1, e2, _⟩ => ⟨by rw [e1]; rfl, by simp, a, [v, u], e1, e2⟩) fun A outer s H vs Q E ⟨a, v, u, e1, e2, q⟩ => ?_
  · match us, hl with
    | [u0, u1, u2], _ =>
      refine PyProof.Rows.spliced_more ?_
      refine wpAny_Name (wpAny_loadName_local I.S.kind (I.S.par x (by simp)) hns (zip_look (i := 1) I.hnd rfl rfl) ?_) hdx
      refine PyProof.Rows.spliced_more ?_
      refine wpAny_Name (wpAny_loadName_local I.S.kind (I.S.par y (by simp)) hns (zip_look (i := 2) I.hnd rfl rfl) ?_) hdx'
      exact spliced_none q
  · refine ⟨_, pss_cons (ps_ost (pe_var (i := 0) rfl (.inl (I.S.par "self" (by simp)))) (pe_var (i := 1) rfl (.inl (I.S.par x (by simp))) hdx hdc) (hsw _)) (pss_one (ps_ost (pe_var (i := 0) rfl (.inl (I.S.par "self" (by simp)))) (pe_var (i := 2) rfl (.inl (I.S.par y (by simp))) hdx' hdc') (hsw' _))), ?_⟩
    subst e1
    refine ⟨v, rfl, .ref a, rfl, a, C, rfl, I.T.T, hf, .inl ⟨e2, fun dx n1 n2 => ?_⟩⟩
    refine ⟨u, rfl, .ref a, rfl, a, C, rfl, I.T.T, hg, .inr ⟨dx, [(x, v)], upd_same, by rw [upd_ne n2, upd_same], by simp, q dx n1 n2⟩⟩
end
end DL
set_option Elab.async false
set_option linter.all false
set_option maxRecDepth 100000
set_option maxHeartbeats 4000000
namespace DL
open PySem PySem.Spec PyProof.Rows L2
variable [Tb]
abbrev XNames := List (Str × Addr)
def ExcR (K : PySem.W.Frag) (TL : XNames) (G : Hp) (cls : Value) (d : Option Addr) (x : PyData) : Prop := ExcAt K G cls d x ∧ ∃ n C, (n, C) ∈ TL ∧ cls = .ref C
def wxOf (K : PySem.W.Frag) (TL : XNames) (B G : Hp) (rt : PyData → DS → Prop) : WX := fun cls d σ H => ∃ G' δ' x, rt x δ' ∧ Same G G' ∧ Rel K B G' δ' σ H ∧ ExcR K TL G' cls d x
theorem wx_mono {K : PySem.W.Frag} {TL : XNames} {B G G' : Hp} {rt : PyData → DS → Prop} (s : Same G G') : ∀ c d σ H, wxOf K TL B G' rt c d σ H → wxOf K TL B G rt c d σ H := fun c d σ H ⟨G2, δ', x, h1, h2, h3, h4⟩ => ⟨G2, δ', x, h1, s.trans h2, h3, h4⟩
structure EndsX (X : Cx) (TL : XNames) (B G : Hp) (E : DEnds) (D : Ends) : Prop extends EndsOk X.K B G E D where
  tk : L2N.Takes X (wxOf X.K TL B G E.rt)
theorem EndsX.mono {X : Cx} {TL : XNames} {B G G' : Hp} {E : DEnds} {D : Ends} (h : EndsX X TL B G E D) (s : Same G G') : EndsX X TL B G' E D := ⟨h.toEndsOk.mono s, h.tk.imp (wx_mono s)⟩
abbrev DEX := DS → (Opd → DS → Prop) → (PyData → DS → Prop) → Prop
abbrev DAX := DS → (List Opd → DS → Prop) → (PyData → DS → Prop) → Prop
section
variable {X : Cx} {TL : XNames} {st : Stmt} {rest es : List Stmt} {e : Expr} {pos : Pos}
def axNil : DAX := fun δ R _ => R [] δ
def axCons (w : DEX) (r : DAX) : DAX := fun δ R Z => w δ (fun o δ1 => r δ1 (fun os δ2 => R (o :: os) δ2) Z) Z
def wTupX (w : DAX) : DEX := fun δ R Z => w δ (fun os δ1 => lkL os δ1 fun xs δ2 => xs.length ≤ 1000 ∧ R (.d (.tuple xs)) δ2) Z
def wLstX (w : DAX) : DEX := fun δ R Z => w δ (fun os δ1 => lkL os δ1 fun xs δ2 => xs.length ≤ 1000 ∧ R (.d (.list xs)) δ2) Z
def wRetX (w : DEX) : DTS := fun E δ => w δ (fun o δ1 => lk o δ1 fun x δ2 => E.rt x δ2) E.rt
def wDropX (w : DEX) : DTS := fun E δ => w δ (fun _ δ1 => E.nx δ1) E.rt
def wSetX (i : Nat) (w : DEX) : DTS := fun E δ => w δ (fun o δ1 => lk o δ1 fun x δ2 => E.nx (δ2.set i (.d x))) E.rt
def wAsgGX (w : DEX) (g : DTG) : DTS := fun E δ => w δ (fun o δ1 => lk o δ1 fun x δ2 => g x δ2 E.nx) E.rt
def wIfEX (t : DT) (wa wb : DEX) : DEX := fun δ R Z => t δ fun k δ1 => if k = true then wa δ1 R Z else wb δ1 R Z
abbrev DMk := DS → (PyData → DS → Prop) → Prop
def wRaise (w : DMk) : DTS := fun E δ => w δ E.rt
def wMk1 (n f : Str) (w : DA) : DMk := fun δ Z => w δ fun os δ1 => lkL os δ1 fun xs δ2 => ∃ x, xs = [x] ∧ Z (excD n [(f, x)]) δ2
def wMk2 (n f g : Str) (w : DA) : DMk := fun δ Z => w δ fun os δ1 => lkL os δ1 fun xs δ2 => ∃ x y, xs = [x, y] ∧ Z (excD n [(g, y), (f, x)]) δ2
end
end DL
set_option Elab.async false
set_option linter.all false
set_option maxRecDepth 100000
set_option maxHeartbeats 4000000
namespace DL
open PySem PySem.Spec PyProof.Rows L2
variable [Tb]
def notX (x : PyData) : Prop := ∀ n fs, x ≠ excD n fs
def onX (x : PyData) (k : PyData → Prop) (kx : Str → List (Str × PyData) → Prop) (_u : Stop (k, kx)) : Prop := (∀ n fs, x = excD n fs → kx n fs) ∧ (notX x → k x)
theorem excD_inj {n m : Str} {fs gs : List (Str × PyData)} (h : excD n fs = excD m gs) : n = m ∧ fs = gs := by
  unfold excD at h
  simp only [PyData.dict.injEq, List.cons.injEq, Prod.mk.injEq, PyData.str.injEq, and_true] at h
  obtain ⟨h1, h2⟩ := h
  refine ⟨h1, ?_⟩
  refine (List.map_inj_right ?_).mp h2
  rintro ⟨a, b⟩ ⟨c, d⟩ e
  simp only [Prod.mk.injEq, PyData.str.injEq] at e
  exact Prod.ext e.1 e.2
theorem onX_yes {n : Str} {fs : List (Str × PyData)} {k : PyData → Prop} {kx : Str → List (Str × PyData) → Prop} {u : Stop (k, kx)} (h : onX (excD n fs) k kx u) : kx n fs := h.1 n fs rfl
omit [Tb] in
@[simp ↓] theorem onX_exc (n : Str) (fs : List (Str × PyData)) (k : PyData → Prop) (kx : Str → List (Str × PyData) → Prop) (u : Stop (k, kx)) : onX (excD n fs) k kx u = kx n fs := propext ⟨onX_yes, fun h => ⟨fun m gs e => by
  obtain ⟨rfl, rfl⟩ := excD_inj e
  exact h, fun hn => absurd rfl (hn n fs)⟩⟩
theorem onX_of {x : PyData} {k : PyData → Prop} {kx : Str → List (Str × PyData) → Prop} {u : Stop (k, kx)} (hn : notX x) : onX x k kx u = k x := propext ⟨fun h => h.2 hn, fun h => ⟨fun n fs e => absurd e (hn n fs), fun _ => h⟩⟩
theorem notX_tup (xs : List PyData) : notX (.tuple xs) := fun n fs e => by cases e
theorem notX_list (xs : List PyData) : notX (.list xs) := fun n fs e => by cases e
theorem notX_int (i : Int) : notX (.int i) := fun n fs e => by cases e
theorem notX_bool (i : Bool) : notX (.bool i) := fun n fs e => by cases e
theorem notX_str (i : Str) : notX (.str i) := fun n fs e => by cases e
theorem notX_none : notX .none := fun n fs e => by cases e
omit [Tb] in
@[simp ↓] theorem onX_tup (xs : List PyData) (k : PyData → Prop) (kx : Str → List (Str × PyData) → Prop) (u : Stop (k, kx)) : onX (.tuple xs) k kx u = k (.tuple xs) := onX_of (notX_tup xs)
omit [Tb] in
@[simp ↓] theorem onX_list (xs : List PyData) (k : PyData → Prop) (kx : Str → List (Str × PyData) → Prop) (u : Stop (k, kx)) : onX (.list xs) k kx u = k (.list xs) := onX_of (notX_list xs)
omit [Tb] in
@[simp ↓] theorem onX_int (i : Int) (k : PyData → Prop) (kx : Str → List (Str × PyData) → Prop) (u : Stop (k, kx)) : onX (.int i) k kx u = k (.int i) := onX_of (notX_int i)
omit [Tb] in
@[simp ↓] theorem onX_bool (i : Bool) (k : PyData → Prop) (kx : Str → List (Str × PyData) → Prop) (u : Stop (k, kx)) : onX (.bool i) k kx u = k (.bool i) := onX_of (notX_bool i)
omit [Tb] in
@[simp ↓] theorem onX_str (i : Str) (k : PyData → Prop) (kx : Str → List (Str × PyData) → Prop) (u : Stop (k, kx)) : onX (.str i) k kx u = k (.str i) := onX_of (notX_str i)
omit [Tb] in
@[simp ↓] theorem onX_none (k : PyData → Prop) (kx : Str → List (Str × PyData) → Prop) (u : Stop (k, kx)) : onX .none k kx u = k .none := onX_of notX_none
omit [Tb] in
@[simp] theorem notX_tup' (xs : List PyData) : notX (.tuple xs) = True := eq_true (notX_tup xs)
omit [Tb] in
@[simp] theorem notX_list' (xs : List PyData) : notX (.list xs) = True := eq_true (notX_list xs)
omit [Tb] in
@[simp] theorem notX_int' (xs : Int) : notX (.int xs) = True := eq_true (notX_int xs)
omit [Tb] in
@[simp] theorem notX_bool' (xs : Bool) : notX (.bool xs) = True := eq_true (notX_bool xs)
omit [Tb] in
@[simp] theorem notX_str' (xs : Str) : notX (.str xs) = True := eq_true (notX_str xs)
omit [Tb] in
@[simp] theorem notX_none' : notX .none = True := eq_true notX_none
def liftSpX (K : PySem.W.Frag) (TL : XNames) (sp : DSp) : Sp := fun vs H Q E => ∃ B G cs R, Rel K B G cs (vs.map some) H ∧ sp cs R ∧ (∀ v H' G' x cs', R x cs' → Same G G' → Rel K B G' cs' (vs.map some) H' → Dn K G' v x → Q v H') ∧
  ∀ cls d H' G' x cs', R x cs' → Same G G' → Rel K B G' cs' (vs.map some) H' → ExcR K TL G' cls d x → E cls d H'
section
variable {P : Program} {w : World} {K : PySem.W.Frag} {mg : Str → Option Value} {base : Heap}
end
section
variable {X : Cx} {TL : XNames} {CX : CXT} {k : Nat} {f : Addr} {fd : FuncData} {ps : List Str} {x : Str} {p pos : Pos} {e : Expr} {es : List Expr}
def wCallX (m : List Bool) (sp : DSp) (w : DAX) : DEX := fun δ R Z => w δ (fun os δ1 => lkM m os δ1 fun os' δ2 => (slotsOf os').Nodup ∧ sp (os'.map (cellOf δ2)) fun x cs => onX x (fun x => R (.d x) (putBack os' cs δ2)) (fun n fs => Z (excD n fs) (putBack os' cs δ2)) .mk) Z
def xE (w : DE) : DEX := fun δ R _ => w δ R
def xA (w : DA) : DAX := fun δ R _ => w δ R
def nX (w : DEX) : DE := fun δ R => w δ R fun _ _ => False
def noXE (E : DEnds) : DEnds := { E with rt := fun x δ' => notX x ∧ E.rt x δ' }
def wNoX (w : DTS) : DTS := fun E δ => w (noXE E) δ
end
def hndE (i : Nat) (E : DEnds) : DEnds := { nx := fun δ2 => E.nx (δ2.set i .em), rt := fun y δ2 => E.rt y (δ2.set i .em), bk := fun δ2 => E.bk (δ2.set i .em), ct := fun δ2 => E.ct (δ2.set i .em) }
def tryE (i : Nat) (cat : Str → Bool) (wh : Addr → Value → Option Addr → DTS) (E : DEnds) : DEnds := { nx := E.nx, bk := E.bk, ct := E.ct, rt := fun x δ' => onX x (fun x => E.rt x δ') (fun n fs => if cat n = true then ∀ (a : Addr) (cls : Value) (d : Option Addr), wh a cls d (hndE i E) (δ'.set i (.xc a cls d (excD n fs))) else E.rt (excD n fs) δ') .mk }
def wTry (i : Nat) (cat : Str → Bool) (wb : DTS) (wh : Addr → Value → Option Addr → DTS) : DTS := fun E δ => wb (tryE i cat wh E) δ
section
variable {X : Cx} {TL : XNames}
end
end DL
set_option Elab.async false
set_option linter.all false
set_option maxRecDepth 100000
set_option maxHeartbeats 4000000
namespace DL
open PySem PySem.Spec PyProof.Rows L2
variable [Tb]
section
open PySem.W PySem.Calls
variable {prog : Program} {w : World} {A : Around} {E : Value → Shared → Prop} {s : Shared} {K : Frag} {x D : Addr} {ox : Obj}
structure ClsBy (K : Frag) (D : Addr) : Prop where
  get : findIn K (.ref D) "__getattribute__" = some (some (.builtin "BaseException.__getattribute__"))
  no : findIn K (.ref D) "__getattr__" = some none
  exc : subIn K (.ref D) (.type "BaseException") = some true
  dict : hasDictIn K D = true
  attr : findIn K (.ref D) "__class__" = some (some (.builtin "object.__class__"))
  desc : specialIn K (.builtin "object.__class__") "__get__" = some (some (.builtin "getset_descriptor.__get__"))
  takes : takesIn K (.builtin "object.__class__") = some true
  root : mroIn K D (.type "object") = some true
variable {od : Option Obj}
theorem ClsBy.cls (c : ClsBy K D) : ∃ cd, clsIn K D = some cd := (any_some c.dict).imp fun _ z => z.1
theorem ClsBy.found (c : ClsBy K D) : findObj K D od "__class__" = some (.bind (.builtin "getset_descriptor.__get__") (.builtin "object.__class__")) := by
  obtain ⟨cd, e⟩ := c.cls
  simp [findObj, e, c.attr, c.desc, c.takes]
theorem ClsBy.obj (c : ClsBy K D) : ∃ o cd, K.lookup D = some o ∧ o.data = .cls cd := by
  obtain ⟨cd, e⟩ := c.cls
  rw [clsIn] at e
  split at e
  next _ _ cd' _ at_D => exact ⟨_, cd', at_D, rfl⟩
  next => exact nomatch e
section
variable {t : Nat} {Q : Fin → Shared → Prop}
theorem ClsBy.root_get (c : ClsBy K D) {tk : Tok} {s : Shared} (X : K.In s.heap) (I : InstAt s.heap x ox D od) (h : Q (.done (.ret (.ref D))) s) : wpAny (model prog w) A (Builtin.«object.__getattribute__» ⟨[.ref x, .str "__class__" tk], []⟩) Q E s := by
  obtain ⟨hp, gs, dr, tk0, os⟩ := s
  have type := I.type (M := model prog w)
  have find := looks_find (M := model prog w) X I c.found
  have desc : wpAny (model prog w) A (holding [Value.builtin "object.__class__"] (call (.builtin "getset_descriptor.__get__") [.builtin "object.__class__", .ref x, .ref D]) >>= ret) Q E ⟨hp, gs, dr, tk0, os⟩ := by
    refine wpAny_bind (wpAny_holding (wpAny_call (class_get (s := ⟨hp, gs, dr, tk0, os⟩) (ox := ox) (od := od) X I c.root ?_)))
    exact wpAny_pure h
  delta Builtin.«object.__getattribute__»
  exact wpAny_bind (wpAny_of_eq (a := ((Value.ref x : Value), [Value.str "__class__" tk])) (by simp only [slotArgs]; rfl) (wpAny_bind (wpAny_pure (wpAny_bind (type.at (wpAny_bind (find.at desc)))))))
end
section
variable {Q : Option Value → Shared → Prop}
theorem ClsBy.tells (c : ClsBy K D) (X : K.In s.heap) (I : InstAt s.heap x ox D od) (h : Q (some (.ref D)) { s with toks := s.toks + 1 }) : wpAny (model prog w) A (getAttr? (.ref x) "__class__") Q E s := by
  obtain ⟨hp, gs, dr, tk, os⟩ := s
  have type := I.type (M := model prog w)
  have isExc : Looks (model prog w) hp (isInstance (.ref x) (.type "BaseException")) true := type.andThen (looks_subIn X c.exc)
  have other : (Value.builtin "BaseException.__getattribute__" == Value.builtin "object.__getattribute__") = false := by decide +kernel
  have by_base {G E' : Value → Shared → Prop} {A' : Around} (g : G (.ref D) ⟨hp, gs, dr, tk + 1, os⟩) : wpAny (model prog w) A' (call (.builtin "BaseException.__getattribute__") [.ref x, .str "__class__" tk]) G E' ⟨hp, gs, dr, tk + 1, os⟩ :=
    wpAny_call (codeAny_call_builtin PySem.F.excAttr_ValueError.ga.plain PySem.F.entry_bexc_ga (@check_slot (model prog w) _ _ ⟨hp, gs, dr, tk + 1, os⟩ "BaseException.__getattribute__" "BaseException" "__getattribute__" (.ref x) [.str "__class__" tk] [] _ (by decide +kernel) (by decide +kernel) isExc
      (PySem.F.args_bexc_ga (.ref x) (.str "__class__" tk)) (c.root_get X I g)))
  have look1 := looks_findIn (M := model prog w) X c.get
  have look2 := looks_findIn (M := model prog w) X c.no
  delta getAttr? getAttrBy? getAttrBy
  refine wpAny_bind (wpAny_mkText (wpAny_bind (wpAny_attempt (wpAny_holding (wpAny_bind (type.at (wpAny_bind (look1.at (wpAny_ite_false (by rw [other, Bool.and_false]; rfl) ?_)))))))))
  delta getAttrByItsOwn hookBefore
  refine wpAny_bind (wpAny_ite_true (by rfl) (look2.at (wpAny_bind (wpAny_attempt (wpAny_holding ?_)))))
  delta callGetattribute
  refine wpAny_ite_false (by rfl) ?_
  delta boundAndCalled
  rw [PySem.F.excAttr_ValueError.ga.bind (.ref x)]
  refine wpAny_bind (wpAny_pure (show wpAny _ _ (call (.builtin "BaseException.__getattribute__") [.ref x, .str "__class__" tk]) _ _ _ from by_base ?_))
  show wpAny _ _ (handedOut (.ref D)) _ _ _
  rw [handedOut_of (v := .ref D) rfl]
  exact wpAny_pure (wpAny_pure h)
end
theorem ClsBy.kit (c : ClsBy K D) : KitX K (.ref x) (.ref D) (fun h => InstAt h x ox D od) where
  ty := fun _ _ _ I => I.type
  it := fun _ _ X _ => by
    obtain ⟨o, cd, at_D, dt⟩ := c.obj
    intro A' Q' E' s' k q
    delta isType loadHead
    exact wpAny_bind (wpAny_loadPart (k _ _ (X _ _ at_D)) (by rw [dt]; exact wpAny_pure q))
  ne := fun h tp dd its n sl X htp => by
    obtain ⟨o, cd, at_D, dt⟩ := c.obj
    refine beq_false_of_ne fun e => ?_
    cases e
    cases (X _ _ at_D).symm.trans htp
    cases dt
  ca := fun X I k => c.tells X I k
end
theorem look_in {K : PySem.W.Frag} {G : Hp} {f : Str} {y : PyData} : ∀ {ws : List (Str × V)} {fs : List (Str × PyData)}, ws.map (·.1) = fs.map (·.1) → DnL K G (ws.map (·.2)) (fs.map (·.2)) → fs.lookup f = some y → ∃ v, ws.lookup f = some v ∧ Dn K G v y
  | [], [], _, _, h => by cases h
  | [], _ :: _, h, _, _ => by cases h
  | _ :: _, [], h, _, _ => by cases h
  | (n, v) :: ws, (m, x) :: fs, h, t, l => by
    simp only [List.map_cons, List.cons.injEq] at h
    obtain ⟨rfl, h⟩ := h
    simp only [List.map_cons] at t
    cases t with
    | cons t1 t2 =>
      rw [List.lookup_cons] at l ⊢
      split at l
      · cases l
        exact ⟨v, rfl, t1⟩
      · exact look_in h t2 l
def xfC (c : Option Cell) (a : Addr) (cls : Value) (d : Option Addr) (f : Str) (k : PyData → Prop) (_u : Stop k) : Prop := ∃ n fs y, c = some (.xc a cls d (excD n fs)) ∧ fs.lookup f = some y ∧ k y
def wXf (a : Addr) (cls : Value) (d : Option Addr) (i : Nat) (f : Str) : DE := fun δ R => xfC δ[i]? a cls d f (fun y => R (.d y) δ) .mk
def isxC (c : Option Cell) (a : Addr) (cls : Value) (d : Option Addr) (k : Str → Prop) (_u : Stop k) : Prop := ∃ n fs, c = some (.xc a cls d (excD n fs)) ∧ k n
def wIsx (a : Addr) (cls : Value) (d : Option Addr) (i : Nat) (isin : Str → Bool) : DE := fun δ R => isxC δ[i]? a cls d (fun n => R (.d (.bool (isin n))) δ) .mk
omit [Tb] in
@[simp ↓] theorem wXf_ap (a : Addr) (cls : Value) (d : Option Addr) (i : Nat) (f : Str) (δ : DS) (R : Opd → DS → Prop) : wXf a cls d i f δ R = xfC δ[i]? a cls d f (fun y => R (.d y) δ) .mk := rfl
omit [Tb] in
@[simp ↓] theorem wIsx_ap (a : Addr) (cls : Value) (d : Option Addr) (i : Nat) (isin : Str → Bool) (δ : DS) (R : Opd → DS → Prop) : wIsx a cls d i isin δ R = isxC δ[i]? a cls d (fun n => R (.d (.bool (isin n))) δ) .mk := rfl
omit [Tb] in
@[simp ↓] theorem isxC_x (a : Addr) (cls : Value) (d : Option Addr) (n : Str) (fs : List (Str × PyData)) (k : Str → Prop) (u : Stop k) : isxC (some (.xc a cls d (excD n fs))) a cls d k u = k n := propext ⟨fun ⟨m, gs, e, h⟩ => by
  simp only [Option.some.injEq, Cell.xc.injEq, true_and] at e
  obtain ⟨rfl, _⟩ := excD_inj e
  exact h, fun h => ⟨n, fs, rfl, h⟩⟩
theorem xfC_of {a : Addr} {cls : Value} {d : Option Addr} {n f : Str} {fs : List (Str × PyData)} {y : PyData} {k : PyData → Prop} {u : Stop k} (hl : fs.lookup f = some y) : xfC (some (.xc a cls d (excD n fs))) a cls d f k u = k y := propext ⟨fun ⟨m, gs, z, e, l, h⟩ => by
  simp only [Option.some.injEq, Cell.xc.injEq, true_and] at e
  obtain ⟨_, rfl⟩ := excD_inj e
  rw [hl] at l
  cases l
  exact h, fun h => ⟨n, fs, y, rfl, hl, h⟩⟩
omit [Tb] in
@[simp ↓] theorem xfC_1 (a : Addr) (cls : Value) (d : Option Addr) (n f : Str) (y : PyData) (k : PyData → Prop) (u : Stop k) : xfC (some (.xc a cls d (excD n [(f, y)]))) a cls d f k u = k y := xfC_of (by simp)
section
variable {X : Cx} {TL : XNames} {a : Addr} {oe : Obj} {cls : Value} {d : Option Addr} {pn : List (Addr × Obj)} {pos p : Pos}
def wMk0 (n : Str) : DMk := fun δ Z => Z (excD n []) δ
end
end DL
set_option Elab.async false
set_option linter.all false
set_option maxRecDepth 100000
set_option maxHeartbeats 4000000
namespace DL
open PySem PySem.Spec PyProof.Rows L2
variable [Tb]
omit [Tb] in
@[simp ↓] theorem tryE_nx (i : Nat) (cat : Str → Bool) (wh : Addr → Value → Option Addr → DTS) (E : DEnds) : (tryE i cat wh E).nx = E.nx := rfl
omit [Tb] in
@[simp ↓] theorem tryE_bk (i : Nat) (cat : Str → Bool) (wh : Addr → Value → Option Addr → DTS) (E : DEnds) : (tryE i cat wh E).bk = E.bk := rfl
omit [Tb] in
@[simp ↓] theorem tryE_ct (i : Nat) (cat : Str → Bool) (wh : Addr → Value → Option Addr → DTS) (E : DEnds) : (tryE i cat wh E).ct = E.ct := rfl
theorem tryE_rt (i : Nat) (cat : Str → Bool) (wh : Addr → Value → Option Addr → DTS) (E : DEnds) (x : PyData) (δ' : DS) : (tryE i cat wh E).rt x δ' = onX x (fun x => E.rt x δ') (fun n fs => if cat n = true then ∀ (a : Addr) (cls : Value) (d : Option Addr), wh a cls d (hndE i E) (δ'.set i (.xc a cls d (excD n fs))) else E.rt (excD n fs) δ') .mk := rfl
omit [Tb] in
@[simp ↓] theorem tryE_rtX (i : Nat) (cat : Str → Bool) (wh : Addr → Value → Option Addr → DTS) (E : DEnds) (n : Str) (fs : List (Str × PyData)) (δ' : DS) : (tryE i cat wh E).rt (excD n fs) δ' = if cat n = true then ∀ (a : Addr) (cls : Value) (d : Option Addr), wh a cls d (hndE i E) (δ'.set i (.xc a cls d (excD n fs))) else E.rt (excD n fs) δ' := by rw [tryE_rt, onX_exc]
theorem tryE_rtN {i : Nat} {cat : Str → Bool} {wh : Addr → Value → Option Addr → DTS} {E : DEnds} {x : PyData} {δ' : DS} (h : notX x) : (tryE i cat wh E).rt x δ' = E.rt x δ' := by rw [tryE_rt, onX_of h]
omit [Tb] in
@[simp ↓] theorem tryE_rt_tup (i : Nat) (cat : Str → Bool) (wh : Addr → Value → Option Addr → DTS) (E : DEnds) (xs : List PyData) (δ' : DS) : (tryE i cat wh E).rt (.tuple xs) δ' = E.rt (.tuple xs) δ' := tryE_rtN (notX_tup xs)
omit [Tb] in
@[simp ↓] theorem tryE_rt_list (i : Nat) (cat : Str → Bool) (wh : Addr → Value → Option Addr → DTS) (E : DEnds) (xs : List PyData) (δ' : DS) : (tryE i cat wh E).rt (.list xs) δ' = E.rt (.list xs) δ' := tryE_rtN (notX_list xs)
omit [Tb] in
@[simp ↓] theorem tryE_rt_bool (i : Nat) (cat : Str → Bool) (wh : Addr → Value → Option Addr → DTS) (E : DEnds) (b : Bool) (δ' : DS) : (tryE i cat wh E).rt (.bool b) δ' = E.rt (.bool b) δ' := tryE_rtN (notX_bool b)
omit [Tb] in
@[simp ↓] theorem hndE_nx (i : Nat) (E : DEnds) (δ : DS) : (hndE i E).nx δ = E.nx (δ.set i .em) := rfl
omit [Tb] in
@[simp ↓] theorem hndE_rt (i : Nat) (E : DEnds) (x : PyData) (δ : DS) : (hndE i E).rt x δ = E.rt x (δ.set i .em) := rfl
omit [Tb] in
@[simp ↓] theorem noXE_nx (E : DEnds) : (noXE E).nx = E.nx := rfl
omit [Tb] in
@[simp ↓] theorem noXE_bk (E : DEnds) : (noXE E).bk = E.bk := rfl
omit [Tb] in
@[simp ↓] theorem noXE_ct (E : DEnds) : (noXE E).ct = E.ct := rfl
omit [Tb] in
@[simp ↓] theorem noXE_rt (E : DEnds) (x : PyData) (δ : DS) : (noXE E).rt x δ = (notX x ∧ E.rt x δ) := rfl
omit [Tb] in
@[simp ↓] theorem wTry_ap (i : Nat) (cat : Str → Bool) (wb : DTS) (wh : Addr → Value → Option Addr → DTS) (E : DEnds) (δ : DS) : wTry i cat wb wh E δ = wb (tryE i cat wh E) δ := rfl
omit [Tb] in
@[simp ↓] theorem wNoX_ap (w : DTS) (E : DEnds) (δ : DS) : wNoX w E δ = w (noXE E) δ := rfl
omit [Tb] in
@[simp ↓] theorem wRetX_ap (w : DEX) (E : DEnds) (δ : DS) : wRetX w E δ = w δ (fun o δ1 => lk o δ1 fun x δ2 => E.rt x δ2) E.rt := rfl
omit [Tb] in
@[simp ↓] theorem wDropX_ap (w : DEX) (E : DEnds) (δ : DS) : wDropX w E δ = w δ (fun _ δ1 => E.nx δ1) E.rt := rfl
omit [Tb] in
@[simp ↓] theorem wSetX_ap (i : Nat) (w : DEX) (E : DEnds) (δ : DS) : wSetX i w E δ = w δ (fun o δ1 => lk o δ1 fun x δ2 => E.nx (δ2.set i (.d x))) E.rt := rfl
omit [Tb] in
@[simp ↓] theorem wAsgGX_ap (w : DEX) (g : DTG) (E : DEnds) (δ : DS) : wAsgGX w g E δ = w δ (fun o δ1 => lk o δ1 fun x δ2 => g x δ2 E.nx) E.rt := rfl
omit [Tb] in
@[simp ↓] theorem wRaise_ap (w : DMk) (E : DEnds) (δ : DS) : wRaise w E δ = w δ E.rt := rfl
omit [Tb] in
@[simp ↓] theorem wMk0_ap (n : Str) (δ : DS) (Z : PyData → DS → Prop) : wMk0 n δ Z = Z (excD n []) δ := rfl
omit [Tb] in
@[simp ↓] theorem wMk1_ap (n f : Str) (w : DA) (δ : DS) (Z : PyData → DS → Prop) : wMk1 n f w δ Z = w δ fun os δ1 => lkL os δ1 fun xs δ2 => match xs with
  | [x] => Z (excD n [(f, x)]) δ2
  | _ => False := by
  unfold wMk1
  congr 1; funext os δ1; congr 1; funext xs δ2
  match xs with
  | [] => simp
  | [x] => simp
  | x :: y :: l => simp
omit [Tb] in
@[simp ↓] theorem wMk2_ap (n f g : Str) (w : DA) (δ : DS) (Z : PyData → DS → Prop) : wMk2 n f g w δ Z = w δ fun os δ1 => lkL os δ1 fun xs δ2 => match xs with
  | [x, y] => Z (excD n [(g, y), (f, x)]) δ2
  | _ => False := by
  unfold wMk2
  congr 1; funext os δ1; congr 1; funext xs δ2
  match xs with
  | [] => simp
  | [x] => simp
  | [x, y] => exact propext ⟨fun ⟨a, b, e, h⟩ => by cases e; exact h, fun h => ⟨x, y, rfl, h⟩⟩
  | x :: y :: z :: l => simp
omit [Tb] in
@[simp ↓] theorem axNil_ap (δ : DS) (R : List Opd → DS → Prop) (Z : PyData → DS → Prop) : axNil δ R Z = R [] δ := rfl
omit [Tb] in
@[simp ↓] theorem axCons_ap (w : DEX) (r : DAX) (δ : DS) (R : List Opd → DS → Prop) (Z : PyData → DS → Prop) : axCons w r δ R Z = w δ (fun o δ1 => r δ1 (fun os δ2 => R (o :: os) δ2) Z) Z := rfl
omit [Tb] in
@[simp ↓] theorem xE_ap (w : DE) (δ : DS) (R : Opd → DS → Prop) (Z : PyData → DS → Prop) : xE w δ R Z = w δ R := rfl
omit [Tb] in
@[simp ↓] theorem xA_ap (w : DA) (δ : DS) (R : List Opd → DS → Prop) (Z : PyData → DS → Prop) : xA w δ R Z = w δ R := rfl
def noZ : PyData → DS → Prop := fun _ _ => False
omit [Tb] in
@[simp ↓] theorem nX_ap (w : DEX) (δ : DS) (R : Opd → DS → Prop) : nX w δ R = w δ R noZ := rfl
omit [Tb] in
@[simp ↓] theorem noZ_ap (x : PyData) (δ : DS) : noZ x δ = False := rfl
omit [Tb] in
@[simp ↓] theorem wTupX_ap (w : DAX) (δ : DS) (R : Opd → DS → Prop) (Z : PyData → DS → Prop) : wTupX w δ R Z = w δ (fun os δ1 => lkL os δ1 fun xs δ2 => xs.length ≤ 1000 ∧ R (.d (.tuple xs)) δ2) Z := rfl
omit [Tb] in
@[simp ↓] theorem wLstX_ap (w : DAX) (δ : DS) (R : Opd → DS → Prop) (Z : PyData → DS → Prop) : wLstX w δ R Z = w δ (fun os δ1 => lkL os δ1 fun xs δ2 => xs.length ≤ 1000 ∧ R (.d (.list xs)) δ2) Z := rfl
omit [Tb] in
@[simp ↓] theorem wIfEX_ap (t : DT) (wa wb : DEX) (δ : DS) (R : Opd → DS → Prop) (Z : PyData → DS → Prop) : wIfEX t wa wb δ R Z = t δ fun k δ1 => if k = true then wa δ1 R Z else wb δ1 R Z := rfl
omit [Tb] in
@[simp ↓] theorem wCallX_ap (m : List Bool) (sp : DSp) (w : DAX) (δ : DS) (R : Opd → DS → Prop) (Z : PyData → DS → Prop) : wCallX m sp w δ R Z = w δ (fun os δ1 => lkM m os δ1 fun os' δ2 => (slotsOf os').Nodup ∧ ask sp (os'.map (cellOf δ2)) (fun x cs => onX x (fun x => R (.d x) (putBack os' cs δ2)) (fun n fs => Z (excD n fs) (putBack os' cs δ2)) .mk) .mk) Z := rfl
end DL
set_option Elab.async false
set_option linter.all false
set_option maxRecDepth 100000
set_option maxHeartbeats 4000000
namespace DL
open PySem PySem.Spec PyProof.Rows L2 NdefX
variable [Tb]
structure CF (K : PySem.W.Frag) (n : Str) (C : Addr) : Prop where
  T : OexC K C
  nm : (PySem.W.clsIn K C).map (·.name) = some n
  xf : XfC K C
  ec : ExcC K C
def XC1 (P : Program) (w : World) (K : PySem.W.Frag) (mg : Str → Option Value) (base : Heap) (TL : XNames) (n f : Str) : Prop :=
  ∃ (C fI : Addr) (fd : FuncData) (ps : List Str), (n, C) ∈ TL ∧ CF K n C ∧ PySem.W.findIn K (.ref C) "__init__" = some (some (.ref fI)) ∧ PySem.W.typeIn K (.ref fI) = some (.type "function") ∧ FnOk P w K mg base CX0 1 fI fd ps (spI1 C f) ∧ Binds K fd ps [] ∧ mg n = some (.ref C)
def XC2 (P : Program) (w : World) (K : PySem.W.Frag) (mg : Str → Option Value) (base : Heap) (TL : XNames) (n f g : Str) : Prop :=
  ∃ (C fI : Addr) (fd : FuncData) (ps : List Str), (n, C) ∈ TL ∧ CF K n C ∧ PySem.W.findIn K (.ref C) "__init__" = some (some (.ref fI)) ∧ PySem.W.typeIn K (.ref fI) = some (.type "function") ∧ FnOk P w K mg base CX0 1 fI fd ps (spI2 C f g) ∧ Binds K fd ps [] ∧ mg n = some (.ref C)
def XC0 (K : PySem.W.Frag) (mg : Str → Option Value) (TL : XNames) (n : Str) : Prop :=
  ∃ (C : Addr) (bmB : List Value), (n, C) ∈ TL ∧ CF K n C ∧ ExcBaseFacts "ValueError" "ValueError.__new__" "ValueError.__init__" bmB ∧ PySem.W.excIn K C bmB "ValueError.__new__" = true ∧ mg n = some (.ref C)
section
variable {X : Cx} {TL : XNames} {p pos : Pos} {e : Expr} {es : List Expr} {n f g : Str} {wa : DA}
end
def YC (K : PySem.W.Frag) (mg : Str → Option Value) (TL : XNames) (x : Str) (cat : Str → Bool) : Prop := ∃ c, mg x = some c ∧ ∀ n C, (n, C) ∈ TL → PySem.W.exmOne K (.ref C) c = some (cat n)
def IC (K : PySem.W.Frag) (mg : Str → Option Value) (TL : XNames) (x : Str) (isin : Str → Bool) : Prop := ∃ c, mg x = some (.ref c) ∧ ∀ n C, (n, C) ∈ TL → PySem.W.kitOne K (.ref C) (.ref c) = some (isin n)
def ICb (K : PySem.W.Frag) (mg : Str → Option Value) (TL : XNames) (x : String) (isin : Str → Bool) : Prop := mg (Str.ofString x) = none ∧ bootBuiltins (Str.ofString x) = some (.type x) ∧ ∀ n C, (n, C) ∈ TL → PySem.W.kitOne K (.ref C) (.type x) = some (isin n)
def TLok (K : PySem.W.Frag) (TL : XNames) : Prop := ∀ n C, (n, C) ∈ TL → CF K n C
def FC (K : PySem.W.Frag) (TL : XNames) (f : Str) : Prop := ∀ n C, (n, C) ∈ TL → PySem.W.findIn K (.ref C) f = some none
section
variable {X : Cx} {TL : XNames}
variable {a : Addr} {oe : Obj} {cls : Value} {d : Option Addr} {pn : List (Addr × Obj)} {pos p : Pos}
end
section
open PySem.W
variable {P : Program} {w : World} {K : Frag} {mg : Str → Option Value} {base h : Heap} {TL : XNames}
theorem xc1_mk {n x qual : Str} {C fI cda cc : Addr} {file : Str} {tf : Tok} {params : Arguments} {scope : Scope} {ar : Arg} {p0 p1 p2 p3 p4 p5 q0 q1 q2 q3 : Pos} {oc ct ccl cl doc pm : Value} {an od cdd cld : Option Addr} {osl ccs csl : Array (Option Value)} {cvs : Array Value} {cdD : ClassData}
    (KX : K.In h) (G : h.Ns mainGlobals mg) (hT : (n, C) ∈ TL) (F : CF K n C) (a : nsIn K mainGlobals n = some (some (.ref C))) (c : clsIn K C = some cdD) (sub : mroIn K C (.ref C) = some true) (opq : nsIn K cStatics "thirdparty.any" = some none) (ini : ks_superIn K C C "__init__" = some (some (.builtin "ValueError.__init__"))) (ve : subIn K (.ref C) (.type "ValueError") = some true)
    (iC : findIn K (.ref C) "__init__" = some (some (.ref fI))) (tI : typeIn K (.ref fI) = some (.type "function"))
    (lk : K.lookup fI = some ⟨oc, od, .func (fnX "__init__" qual params [.Expr (.Call (.Attribute (.Call (.Name "super" p0) [] [] p1) "__init__" p2) [.Name x p3] [] p4) p5, .Assign [.Attribute (.Name "self" q0) x q1] (.Name x q2) q3] scope [("__class__", cc)] .none .none doc pm an (.ref cda) ct), osl⟩)
    (hcd : codeIn K (.ref cda) qual = true) (hcode : K.lookup cda = some ⟨ccl, cdd, .fields cvs, ccs⟩) (hvs : cvs[2]? = some (.str file tf)) (hfile : ((P.main.file : Str) == file) = true)
    (hcell : K.lookup cc = some ⟨cl, cld, .cell (some (.ref C)), csl⟩) (hsm : nsIn K mainGlobals "super" = some none)
    (S : nscB ["self", x, "__class__"] ["self", x] ["__class__"] scope = true) (hp : (params.posonlyargs ++ params.args).head? = some ar) (har : ([("self" : Str), x] : List Str).head? = some ar.arg) (hnd : ([("self" : Str), x] : List Str).Nodup)
    (hks : scope.names.lookup ("super" : Str) = some .globalImplicit) (htop : (P.main.scope.names.lookup ("super" : Str)).isSome = false)
    (hst : ∀ L, starEach [.Name x p3] (ksEnv qual scope L fI (.ref cda) cc) = (false, eval (.Name x p3) (ksEnv qual scope L fI (.ref cda) cc)) :: starEach [] (ksEnv qual scope L fI (.ref cda) cc))
    (hev : ∀ L, ∃ pl, eval (.Call (.Attribute (.Call (.Name "super" p0) [] [] p1) "__init__" p2) [.Name x p3] [] p4) (ksEnv qual scope L fI (.ref cda) cc) = (do
      let ov ← attributeBase (.Call (.Name "super" p0) [] [] p1) "__init__" (ksEnv qual scope L fI (.ref cda) cc) (eval (.Call (.Name "super" p0) [] [] p1) (ksEnv qual scope L fI (.ref cda) cc))
      standAt p2.atName
      let (f, first) ← holding [ov] (getMethod ov "__init__" pl)
      callWith p4 f first (backTo p4 (starEach [.Name x p3] (ksEnv qual scope L fI (.ref cda) cc))) []))
    (hsw : ∀ L, swapsWith (.Call (.Attribute (.Call (.Name "super" p0) [] [] p1) "__init__" p2) [.Name x p3] [] p4) none p5.line (ksEnv qual scope L fI (.ref cda) cc) = pure false)
    (hin : ∀ L, interactive (ksEnv qual scope L fI (.ref cda) cc) = false)
    (hsw2 : ∀ env : Env, swapsWith (.Name x q2) (some (.Attribute (.Name "self" q0) x q1)) q3.line env = pure false)
    (hf : findIn K (.ref C) x = some none) (hdx : (x == ("__debug__" : Str)) = false) (hdc : (x == ("__classdict__" : Str)) = false)
    (hb : ∀ us : List Value, us.length = 2 → bindArgs (fnX "__init__" qual params [.Expr (.Call (.Attribute (.Call (.Name "super" p0) [] [] p1) "__init__" p2) [.Name x p3] [] p4) p5, .Assign [.Attribute (.Name "self" q0) x q1] (.Name x q2) q3] scope [("__class__", cc)] .none .none doc pm an (.ref cda) ct) ⟨us, []⟩ = pure (([("self" : Str), x] : List Str).zip us)) :
    XC1 P w K mg base TL n x :=
  ⟨C, fI, _, ["self", x], hT, F, iC, tI, init_ok1 lk ⟨⟨F.T, ⟨_, c⟩, sub, opq, ini, ve⟩, hcd, ⟨_, _, _, _, _, _, hcode, hvs, hfile⟩, ⟨_, _, _, hcell⟩, mg_none_of KX G hsm, nscope_by S, ⟨ar, hp, har⟩, hnd, hks, htop, hst, fun L => rfl, hev, hsw, hin⟩ hf hdx hdc hsw2,
    fun s us k hl => by
      rw [List.append_nil] at hl ⊢
      exact .of_eq (hb us hl), mg_of KX G a⟩
theorem xc2_mk {n x y qual : Str} {C fI cda cc : Addr} {file : Str} {tf : Tok} {params : Arguments} {scope : Scope} {ar : Arg} {p0 p1 p2 p3 p3' p4 p5 q0 q1 q2 q3 r0 r1 r2 r3 : Pos} {oc ct ccl cl doc pm : Value} {an od cdd cld : Option Addr} {osl ccs csl : Array (Option Value)} {cvs : Array Value} {cdD : ClassData}
    (KX : K.In h) (G : h.Ns mainGlobals mg) (hT : (n, C) ∈ TL) (F : CF K n C) (a : nsIn K mainGlobals n = some (some (.ref C))) (c : clsIn K C = some cdD) (sub : mroIn K C (.ref C) = some true) (opq : nsIn K cStatics "thirdparty.any" = some none) (ini : ks_superIn K C C "__init__" = some (some (.builtin "ValueError.__init__"))) (ve : subIn K (.ref C) (.type "ValueError") = some true)
    (iC : findIn K (.ref C) "__init__" = some (some (.ref fI))) (tI : typeIn K (.ref fI) = some (.type "function"))
    (lk : K.lookup fI = some ⟨oc, od, .func (fnX "__init__" qual params [.Expr (.Call (.Attribute (.Call (.Name "super" p0) [] [] p1) "__init__" p2) [.Name x p3, .Name y p3'] [] p4) p5, .Assign [.Attribute (.Name "self" q0) x q1] (.Name x q2) q3, .Assign [.Attribute (.Name "self" r0) y r1] (.Name y r2) r3] scope [("__class__", cc)] .none .none doc pm an (.ref cda) ct), osl⟩)
    (hcd : codeIn K (.ref cda) qual = true) (hcode : K.lookup cda = some ⟨ccl, cdd, .fields cvs, ccs⟩) (hvs : cvs[2]? = some (.str file tf)) (hfile : ((P.main.file : Str) == file) = true)
    (hcell : K.lookup cc = some ⟨cl, cld, .cell (some (.ref C)), csl⟩) (hsm : nsIn K mainGlobals "super" = some none)
    (S : nscB ["self", x, y, "__class__"] ["self", x, y] ["__class__"] scope = true) (hp : (params.posonlyargs ++ params.args).head? = some ar) (har : ([("self" : Str), x, y] : List Str).head? = some ar.arg) (hnd : ([("self" : Str), x, y] : List Str).Nodup)
    (hks : scope.names.lookup ("super" : Str) = some .globalImplicit) (htop : (P.main.scope.names.lookup ("super" : Str)).isSome = false)
    (hst : ∀ L, starEach [.Name x p3, .Name y p3'] (ksEnv qual scope L fI (.ref cda) cc) = (false, eval (.Name x p3) (ksEnv qual scope L fI (.ref cda) cc)) :: starEach [.Name y p3'] (ksEnv qual scope L fI (.ref cda) cc))
    (hev : ∀ L, ∃ pl, eval (.Call (.Attribute (.Call (.Name "super" p0) [] [] p1) "__init__" p2) [.Name x p3, .Name y p3'] [] p4) (ksEnv qual scope L fI (.ref cda) cc) = (do
      let ov ← attributeBase (.Call (.Name "super" p0) [] [] p1) "__init__" (ksEnv qual scope L fI (.ref cda) cc) (eval (.Call (.Name "super" p0) [] [] p1) (ksEnv qual scope L fI (.ref cda) cc))
      standAt p2.atName
      let (f, first) ← holding [ov] (getMethod ov "__init__" pl)
      callWith p4 f first (backTo p4 (starEach [.Name x p3, .Name y p3'] (ksEnv qual scope L fI (.ref cda) cc))) []))
    (hsw : ∀ L, swapsWith (.Call (.Attribute (.Call (.Name "super" p0) [] [] p1) "__init__" p2) [.Name x p3, .Name y p3'] [] p4) none p5.line (ksEnv qual scope L fI (.ref cda) cc) = pure false)
    (hin : ∀ L, interactive (ksEnv qual scope L fI (.ref cda) cc) = false)
    (hsw2 : ∀ env : Env, swapsWith (.Name x q2) (some (.Attribute (.Name "self" q0) x q1)) q3.line env = pure false) (hsw3 : ∀ env : Env, swapsWith (.Name y r2) (some (.Attribute (.Name "self" r0) y r1)) r3.line env = pure false)
    (hf : findIn K (.ref C) x = some none) (hg : findIn K (.ref C) y = some none) (hdx : (x == ("__debug__" : Str)) = false) (hdc : (x == ("__classdict__" : Str)) = false) (hdx' : (y == ("__debug__" : Str)) = false) (hdc' : (y == ("__classdict__" : Str)) = false)
    (hb : ∀ us : List Value, us.length = 3 → bindArgs (fnX "__init__" qual params [.Expr (.Call (.Attribute (.Call (.Name "super" p0) [] [] p1) "__init__" p2) [.Name x p3, .Name y p3'] [] p4) p5, .Assign [.Attribute (.Name "self" q0) x q1] (.Name x q2) q3, .Assign [.Attribute (.Name "self" r0) y r1] (.Name y r2) r3] scope [("__class__", cc)] .none .none doc pm an (.ref cda) ct) ⟨us, []⟩ = pure (([("self" : Str), x, y] : List Str).zip us)) :
    XC2 P w K mg base TL n x y :=
  ⟨C, fI, _, ["self", x, y], hT, F, iC, tI, init_ok2 lk ⟨⟨F.T, ⟨_, c⟩, sub, opq, ini, ve⟩, hcd, ⟨_, _, _, _, _, _, hcode, hvs, hfile⟩, ⟨_, _, _, hcell⟩, mg_none_of KX G hsm, nscope_by S, ⟨ar, hp, har⟩, hnd, hks, htop, hst, fun L => rfl, hev, hsw, hin⟩ hf hg hdx hdc hdx' hdc' hsw2 hsw3,
    fun s us k hl => by
      rw [List.append_nil] at hl ⊢
      exact .of_eq (hb us hl), mg_of KX G a⟩
theorem xc0_mk {n : Str} {C : Addr} (KX : K.In h) (G : h.Ns mainGlobals mg) (hT : (n, C) ∈ TL) (F : CF K n C) (a : nsIn K mainGlobals n = some (some (.ref C))) (q : excIn K C [.type "ValueError", .type "Exception", .type "BaseException", .type "object"] "ValueError.__new__" = true) : XC0 K mg TL n :=
  ⟨C, _, hT, F, PySem.F.excBase_ValueError, q, mg_of KX G a⟩
end
def AllT (p : Str → Addr → Prop) : XNames → Prop
  | [] => True
  | q :: r => p q.1 q.2 ∧ AllT p r
theorem allT_of {p : Str → Addr → Prop} : ∀ {TL : XNames}, AllT p TL → ∀ n C, (n, C) ∈ TL → p n C
  | q :: r, ⟨h1, h2⟩, n, C, m => by
    rcases List.mem_cons.mp m with rfl | m
    · exact h1
    · exact allT_of h2 n C m
section
variable {X : Cx} {TL : XNames} {x : Str} {e : Expr} {pos p : Pos}
variable {a : Addr} {oe : Obj} {cls : Value} {d : Option Addr} {pn : List (Addr × Obj)}
end
end DL
set_option Elab.async false
set_option linter.all false
set_option maxRecDepth 100000
set_option maxHeartbeats 4000000
namespace DL
open PySem PySem.Spec PyProof.Rows L2
variable [Tb]
structure Cl where
  c : Value
  i : Option Nat
  ts : Addr → Value → Option Addr → TS
def gone (i : Option Nat) (D : Ends) : Ends := match i with
  | none => D
  | some i => { nx := fun σ H => D.nx (σ.set i none) H, rt := D.rt, bk := fun σ H => D.bk (σ.set i none) H, ct := fun σ H => D.ct (σ.set i none) H }
def named (i : Option Nat) (a : Addr) (σ : L2.St) : L2.St := match i with
  | none => σ
  | some i => σ.set i (some (.ref a))
def wCls (K : PySem.W.Frag) (W : WX) (D : Ends) : List Cl → WX
  | [] => W
  | q :: r => fun cls d σ H => ∃ b, PySem.W.exmOne K cls q.c = some b ∧ if b = true then ∀ a, H a = none → q.ts a cls d (gone q.i D) (named q.i a σ) H else wCls K W D r cls d σ H
inductive ClsOk (X : Cx) : List ExceptHandler → List Cl → Prop
  | nil : ClsOk X [] []
  | cons {x : Str} {q : Cl} {n : Option Str} {b : Stmt} {bs : List Stmt} {np p : Pos} {hs : List ExceptHandler} {l : List Cl} (hc : Names X x q.c)
      (hn : match n, q.i with
        | none, none => True
        | some y, some i => X.N[i]? = some y ∧ X.env.kindOf y = some .local
        | _, _ => False)
      (su : ∀ (a : Addr) (o : Obj) (cls : Value) (d : Option Addr) (pn : List (Addr × Obj)), L2N.Zn cls d o → (∃ vs, o.data = .fields vs) → PSs (X.suite a ((a, o) :: pn)) (b :: bs) (q.ts a cls d)) (r : ClsOk X hs l) :
      ClsOk X (.ExceptHandler (some (.Name x np)) n (b :: bs) p :: hs) (q :: l)
section
variable {X : Cx} {pins : List (Addr × Obj)} {σ : L2.St} {H : Hp} {a : Addr} {cls : Value} {d : Option Addr} {D : Ends} {W : WX}
structure Aloft (X : Cx) (pins : List (Addr × Obj)) (σ : L2.St) (H : Hp) (a : Addr) (cls : Value) (d : Option Addr) (z : Shared) : Prop where
  ex : ∃ (B : Heap) (y : Shared), Inv X pins σ H y ∧ (∀ b o, y.heap.get? b = some o → b ∉ frs X.stack → B.get? b = some o) ∧ y.heap.UpToSlots z.heap ∧ HandSPX.FlyingZ B (X.env :: X.outer) a (L2N.Zn cls d) z.heap ∧ z.os = y.os ∧ AllBare z.gens
  na : H a = none
theorem Aloft.inv {z : Shared} (A : Aloft X pins σ H a cls d z) : Inv X pins σ H z := by
  obtain ⟨⟨B, y, J, nb, up, fl, os, ag⟩, _⟩ := A
  exact J.landed nb fl.1 up os ag
theorem Aloft.obj (hs : X.stack = X.env :: X.outer) (hf : X.env.frame = some X.env.locals) {z : Shared} (A : Aloft X pins σ H a cls d z) : ∃ o, z.heap.get? a = some o ∧ L2N.Zn cls d o ∧ (∃ vs, o.data = .fields vs) ∧ Inv (X.suite a ((a, o) :: (X.pn ++ pins))) [] σ H z := by
  have I := A.inv
  obtain ⟨⟨B, y, _, _, _, fl, _, _⟩, na⟩ := A
  obtain ⟨o, vs, at_, zn, dd⟩ := fl.there
  have out : a ∉ frs (X.env :: X.outer) := fun m => by
    obtain ⟨_, o', e', no⟩ := fl.2.2.1.mem m
    rw [at_] at e'
    cases e'
    exact no _ dd
  refine ⟨o, at_, zn, ⟨vs, dd⟩, I.suite at_ dd na (fun z => out ?_) fun m => out ?_⟩
  · exact List.mem_filterMap.mpr ⟨X.env, List.mem_cons_self, by rw [hf, z]⟩
  · obtain ⟨e, me, q⟩ := List.mem_filterMap.mp m
    exact List.mem_filterMap.mpr ⟨e, List.mem_cons_of_mem _ me, q⟩
theorem Aloft.mark {M : Model} {A : Around} {E : Value → Shared → Prop} {Q : Unit → Shared → Prop} {z : Shared} (h : Aloft X pins σ H a cls d z) (hQ : ∀ z', Aloft X pins σ H a cls d z' → Q () z') : wpAny M A (setFlight (.ref a) none) Q E z := by
  obtain ⟨⟨B, y, J, nb, up, fl, os, ag⟩, na⟩ := h
  exact HandSPX.lands_againZ fl fun h' fl' up' => hQ _ ⟨⟨B, y, J, nb, up.trans up', fl', os, ag⟩, na⟩
theorem Aloft.on (hs : X.stack = X.env :: X.outer) (hf : X.env.frame = some X.env.locals) (tk : L2N.Takes X W) {z : Shared} (h : Aloft X pins σ H a cls d z) (w : W cls d σ H) {Q : Flow → Shared → Prop} : wpAny (model X.prog X.w) X.A (handleBy (.ref a) X.env []) Q X.xe z := by
  obtain ⟨⟨B, y, J, nb, up, fl, os, ag⟩, na⟩ := h
  have last : wpAny (model X.prog X.w) X.A (setFlight (.ref a) X.env.frame) (fun _ z' => wpAny (model X.prog X.w) X.A (throw (.ref a) : Sem Flow) Q X.xe z') X.xe z := by
    rw [hf]
    refine HandSPX.setFlight_upZ fl fun h' held up' => wpAny_throw (tk _ _ ⟨a, B, y, pins, σ, H, cls, d, rfl, J, nb, up.trans up', .inr (.inr ?_), na, os, ag, w⟩)
    rw [hs]
    exact held
  obtain ⟨_, _, _, o, vs, T, _, _, at_, _, dd, f1, _⟩ := id fl
  refine wpAny_handleBy_nil ?_
  unfold PySem.passOn
  refine wpAny_bind (wpAny_field at_ dd f1 ?_)
  have no : ¬ ((Value.ref T == Value.none) = true) := by simp
  rw [if_neg no]
  first
    | exact wpAny_bind last
    | exact wpAny_bind (wpAny_pure (wpAny_bind last))
theorem suite_ends {i : Option Nat} {n : Option Str} {o : Obj} {p : Pos} {f : Flow} {z : Shared} (ok : X.Ok) (hN : X.N.Nodup) (hn : match n, i with
        | none, none => True
        | some y, some i => X.N[i]? = some y ∧ X.env.kindOf y = some .local
        | _, _ => False) (h : SP (X.suite a ((a, o) :: (X.pn ++ pins))) [] (gone i D) f z) :
    match n with
    | none => SP X pins D f z
    | some y => wpAny (model X.prog X.w) X.A (do bindName X.env y .none; unbindBehindTheSuite X.env y p) (fun _ z' => SP X pins D f z') X.xe z := by
  cases n with
  | none =>
    cases i with
    | some i => exact hn.elim
    | none => cases f with
      | ret u => obtain ⟨v, τ, H6, J, q⟩ := h; exact ⟨v, τ, H6, J.unsuite ok, q⟩
      | _ => obtain ⟨τ, H6, J, q⟩ := h; exact ⟨τ, H6, J.unsuite ok, q⟩
  | some y =>
    cases i with
    | none => exact hn.elim
    | some i => cases f with
      | ret u => obtain ⟨v, τ, H6, J, q⟩ := h; exact gone_ok (J.unsuite ok) hN hn.1 hn.2 fun _ J' => ⟨v, _, H6, J', q⟩
      | _ => obtain ⟨τ, H6, J, q⟩ := h; exact gone_ok (J.unsuite ok) hN hn.1 hn.2 fun _ J' => ⟨_, H6, J', q⟩
theorem clauses (hs : X.stack = X.env :: X.outer) (hf : X.env.frame = some X.env.locals) (hN : X.N.Nodup) (ok : X.Ok) (tk : L2N.Takes X W) : ∀ {hds : List ExceptHandler} {l : List Cl}, ClsOk X hds l → ∀ {z : Shared}, Aloft X pins σ H a cls d z → wCls X.K W D l cls d σ H →
    wpAny (model X.prog X.w) X.A (handleBy (.ref a) X.env hds) (SP X pins D) X.xe z
  | _, _, .nil, _, A, w => A.on hs hf tk w
  | _, _, .cons (x := x) (q := q) (n := n) (b := b₀) (bs := bs) (np := np) (p := p) (hs := hds') (l := l') hc hn su r, z, A, w => by
    obtain ⟨b, eb, w⟩ := w
    obtain ⟨o, at_, zn, fd, S⟩ := A.obj hs hf
    have looks : PySem.W.Looks (model X.prog X.w) z.heap (typeOf (.ref a)) cls := fun _ _ _ _ k h => wpAny_typeOf_ref (k _ _ at_) (zn.1.symm ▸ h)
    have is := PySem.W.exm_one (M := model X.prog X.w) A.inv.kIn looks eb
    refine wpAny_handleBy_cons (codeAny_handlers_test ?_) fun e => (nomatch e)
    have name : ∀ {Q : Value → Shared → Prop} {E : Value → Shared → Prop}, Q q.c z → wpAny (model X.prog X.w) (X.A.mark (some (.ref a))) (eval (.Name x np) X.env) Q E z := fun {Q E} h => by
      rcases hc with ⟨g, db, m | ⟨m, v, ne⟩⟩
      · exact ld_glob S g m h db
      · exact ld_blt S g m v h ne db
    refine name (is.here ?_)
    cases b with
    | false =>
      exact clauses hs hf hN ok tk r A (by simpa using w)
    | true =>
      have w : ∀ a, H a = none → q.ts a cls d (gone q.i D) (named q.i a σ) H := by simpa using w
      have run : ∀ {z2 z3 : Shared} {o2 : Obj}, Inv (X.suite a ((a, o2) :: (X.pn ++ pins))) [] (named q.i a σ) H z3 → L2N.Zn cls d o2 → (∃ vs, o2.data = .fields vs) →
          wpAny (model X.prog X.w) (X.A.mark (some (.ref a))) (execs (b₀ :: bs) X.env) (SP (X.suite a ((a, o2) :: (X.pn ++ pins))) [] (gone q.i D)) (fun _ _ => False) z3 := fun {z2 z3 o2} J z1 f1 => (su a o2 cls d (X.pn ++ pins) z1 f1).run [] z3 _ H _ J (w a A.na)
      cases n with
      | none =>
        cases ei : q.i with
        | some i => rw [ei] at hn; exact hn.elim
        | none =>
          refine codeAny_handlers_suite (A.mark fun z2 A2 => ?_)
          obtain ⟨o2, _, zn2, fd2, S2⟩ := A2.obj hs hf
          refine wpAny_mono (run (z2 := z2) (by rw [ei]; exact S2) zn2 fd2) (fun f z6 h => ?_) fun _ _ e => e.elim
          exact suite_ends (n := none) (p := p) ok hN hn h
      | some y =>
        cases ei : q.i with
        | none => rw [ei] at hn; exact hn.elim
        | some i =>
          have hn' := hn
          rw [ei] at hn'
          refine codeAny_handlers_suite_as (A.mark fun z2 A2 => ?_)
          obtain ⟨o2, _, zn2, fd2, S2⟩ := A2.obj hs hf
          refine store_ok (X := X.suite a ((a, o2) :: (X.pn ++ pins))) (v := .ref a) S2 hN hn'.1 (.inl hn'.2) rfl (fun z3 S3 => ?_) (.inr hn'.2)
          refine wpAny_mono (run (z2 := z2) (by rw [ei]; exact S3) zn2 fd2) (fun f z6 h => ?_) fun _ _ e => e.elim
          exact suite_ends (n := some y) (p := p) ok hN hn h
end
section
variable {X : Cx} {body : List Stmt} {h₀ : ExceptHandler} {hds : List ExceptHandler} {l : List Cl} {pos : Pos} {tb : WX → TS} {W : WX}
end
abbrev CD := Option Nat × (Str → Bool) × (Addr → Value → Option Addr → DTS)
def doX (i : Option Nat) (wh : Addr → Value → Option Addr → DTS) (n : Str) (fs : List (Str × PyData)) (E : DEnds) (δ : DS) : Prop := match i with
  | none => ∀ (a : Addr) (cls : Value) (d : Option Addr), wh a cls d E δ
  | some i => ∀ (a : Addr) (cls : Value) (d : Option Addr), wh a cls d (hndE i E) (δ.set i (.xc a cls d (excD n fs)))
def pickX : List CD → Str → List (Str × PyData) → DEnds → DS → Prop
  | [], n, fs, E, δ => E.rt (excD n fs) δ
  | q :: r, n, fs, E, δ => if q.2.1 n = true then doX q.1 q.2.2 n fs E δ else pickX r n fs E δ
def tryM (l : List CD) (E : DEnds) : DEnds := { nx := E.nx, bk := E.bk, ct := E.ct, rt := fun x δ' => onX x (fun x => E.rt x δ') (fun n fs => pickX l n fs E δ') .mk }
def wTryM (l : List CD) (wb : DTS) : DTS := fun E δ => wb (tryM l E) δ
omit [Tb] in
@[simp ↓] theorem wTryM_ap (l : List CD) (wb : DTS) (E : DEnds) (δ : DS) : wTryM l wb E δ = wb (tryM l E) δ := rfl
omit [Tb] in
@[simp ↓] theorem tryM_nx (l : List CD) (E : DEnds) : (tryM l E).nx = E.nx := rfl
omit [Tb] in
@[simp ↓] theorem tryM_bk (l : List CD) (E : DEnds) : (tryM l E).bk = E.bk := rfl
omit [Tb] in
@[simp ↓] theorem tryM_ct (l : List CD) (E : DEnds) : (tryM l E).ct = E.ct := rfl
omit [Tb] in
@[simp ↓] theorem tryM_rt (l : List CD) (E : DEnds) (x : PyData) (δ : DS) : (tryM l E).rt x δ = onX x (fun x => E.rt x δ) (fun n fs => pickX l n fs E δ) .mk := rfl
inductive ClsD (X : Cx) (TL : XNames) : List ExceptHandler → List CD → Prop
  | nil : ClsD X TL [] []
  | bare {x : Str} {cat : Str → Bool} {wh : Addr → Value → Option Addr → DTS} {b : Stmt} {bs : List Stmt} {np p : Pos} {hs : List ExceptHandler} {l : List CD} (y : YC X.K X.mg TL x cat) (hg : Gl X x) (hdb : (x == ("__debug__" : Str)) = false)
      (su : ∀ (a : Addr) (oe : Obj) (cls : Value) (d : Option Addr) (pn : List (Addr × Obj)), Zc cls d oe → (∃ vs, oe.data = .fields vs) → (∃ n C, (n, C) ∈ TL ∧ cls = .ref C) → JSs (X.suite a ((a, oe) :: pn)) (b :: bs) (wh a cls d)) (r : ClsD X TL hs l) :
      ClsD X TL (.ExceptHandler (some (.Name x np)) none (b :: bs) p :: hs) ((none, cat, wh) :: l)
  | as {x n : Str} {i : Nat} {cat : Str → Bool} {wh : Addr → Value → Option Addr → DTS} {b : Stmt} {bs : List Stmt} {np p : Pos} {hs : List ExceptHandler} {l : List CD} (y : YC X.K X.mg TL x cat) (hg : Gl X x) (hdb : (x == ("__debug__" : Str)) = false) (hi : X.N[i]? = some n) (hln : X.env.kindOf n = some .local)
      (su : ∀ (a : Addr) (oe : Obj) (cls : Value) (d : Option Addr) (pn : List (Addr × Obj)), Zc cls d oe → (∃ vs, oe.data = .fields vs) → (∃ n C, (n, C) ∈ TL ∧ cls = .ref C) → JSs (X.suite a ((a, oe) :: pn)) (b :: bs) (wh a cls d)) (r : ClsD X TL hs l) :
      ClsD X TL (.ExceptHandler (some (.Name x np)) (some n) (b :: bs) p :: hs) ((some i, cat, wh) :: l)
  /-- the suite is told that the caught one's context is None -/
  | asN {x n : Str} {i : Nat} {cat : Str → Bool} {wh : Addr → Value → Option Addr → DTS} {b : Stmt} {bs : List Stmt} {np p : Pos} {hs : List ExceptHandler} {l : List CD} (y : YC X.K X.mg TL x cat) (hg : Gl X x) (hdb : (x == ("__debug__" : Str)) = false) (hi : X.N[i]? = some n) (hln : X.env.kindOf n = some .local)
      (su : ∀ (a : Addr) (oe : Obj) (cls : Value) (d : Option Addr) (pn : List (Addr × Obj)), L2N.Zn cls d oe → (∃ vs, oe.data = .fields vs) → (∃ n C, (n, C) ∈ TL ∧ cls = .ref C) → JSs (X.suite a ((a, oe) :: pn)) (b :: bs) (wh a cls d)) (r : ClsD X TL hs l) :
      ClsD X TL (.ExceptHandler (some (.Name x np)) (some n) (b :: bs) p :: hs) ((some i, cat, wh) :: l)
section
variable {X : Cx} {TL : XNames}
inductive Pair (X : Cx) (TL : XNames) : List Cl → List CD → Prop
  | nil : Pair X TL [] []
  | cons {c : Value} {i : Option Nat} {cat : Str → Bool} {wh : Addr → Value → Option Addr → DTS} {l : List Cl} {m : List CD} (hc : ∀ n C, (n, C) ∈ TL → PySem.W.exmOne X.K (.ref C) c = some (cat n)) (r : Pair X TL l m) :
      Pair X TL (⟨c, i, fun a cls d D σ H => (∃ n C, (n, C) ∈ TL ∧ cls = .ref C) ∧ upS X.K (wh a cls d) D σ H⟩ :: l) ((i, cat, wh) :: m)
end
end DL
set_option Elab.async false
set_option linter.all false
set_option maxRecDepth 100000
set_option maxHeartbeats 4000000
namespace DL
open PySem PySem.Spec PyProof.Rows L2
variable [Tb]
omit [Tb] in
theorem RoomG.in1 {k : Nat} {A : Around} (r : RoomG (k + 1) A) : RoomG k A.in1 := ⟨r.rm.in1, r.gd⟩
section
variable {X : Cx} {CX : CXT} {k : Nat} {f C a : Addr} {fd : FuncData} {ps : List Str} {sp : Sp} {E : L2.St → XK} {pins : List (Addr × Obj)} {σ : L2.St} {H : Hp} {s : Shared} {Q : VK} {us : List Value} {vs : List V}
end
section
variable {X : Cx} {CX : CXT} {k : Nat} {f C p : Addr} {n : Str} {fd : FuncData} {ps : List Str} {sp : Sp} {E : L2.St → XK} {e e2 : Expr} {es : List Expr} {ta tb : TE} {t : TA} {pos apos : Pos}
end
def obIs (o : Opd) (δ : DS) (n : Str) : Prop := match o with
  | .d x => ∃ fs, x = obD n fs
  | .s i => ∃ a fs, δ[i]? = some (.ob a n fs)
def wSelf (m : List Bool) (n : Str) (sp : DSp) (ok : PyData → Prop) (wa : DA) : DE := fun δ R => wa δ fun os δ2 => obIs (os.headD (.d .none)) δ2 n ∧ lkM m os δ2 fun os' δ3 => (slotsOf os').Nodup ∧ ask sp (os'.map (cellOf δ3)) (fun x cs => ok x ∧ R (.d x) (putBack os' cs δ3)) .mk
def wSelfX (m : List Bool) (n : Str) (sp : DSp) (wa : DA) : DEX := fun δ R Z => wa δ fun os δ2 => obIs (os.headD (.d .none)) δ2 n ∧ lkM m os δ2 fun os' δ3 => (slotsOf os').Nodup ∧ ask sp (os'.map (cellOf δ3)) (fun x cs => onX x (fun x => R (.d x) (putBack os' cs δ3)) (fun n fs => Z (excD n fs) (putBack os' cs δ3)) .mk) .mk
omit [Tb] in
@[simp ↓] theorem wSelf_ap (m : List Bool) (n : Str) (sp : DSp) (ok : PyData → Prop) (wa : DA) (δ : DS) (R : Opd → DS → Prop) : wSelf m n sp ok wa δ R = (wa δ fun os δ2 => obIs (os.headD (.d .none)) δ2 n ∧ lkM m os δ2 fun os' δ3 => (slotsOf os').Nodup ∧ ask sp (os'.map (cellOf δ3)) (fun x cs => ok x ∧ R (.d x) (putBack os' cs δ3)) .mk) := rfl
omit [Tb] in
@[simp ↓] theorem wSelfX_ap (m : List Bool) (n : Str) (sp : DSp) (wa : DA) (δ : DS) (R : Opd → DS → Prop) (Z : PyData → DS → Prop) : wSelfX m n sp wa δ R Z = (wa δ fun os δ2 => obIs (os.headD (.d .none)) δ2 n ∧ lkM m os δ2 fun os' δ3 => (slotsOf os').Nodup ∧ ask sp (os'.map (cellOf δ3)) (fun x cs => onX x (fun x => R (.d x) (putBack os' cs δ3)) (fun n fs => Z (excD n fs) (putBack os' cs δ3)) .mk) .mk) := rfl
section
variable {X : Cx} {TL : XNames} {C : Addr} {n : Str} {sp : DSp} {ok : PyData → Prop} {okv : V → Prop} {wa : DA} {m : List Bool} {σ : L2.St} {H B G : Hp} {Q : VK} {δ : DS} {R : Opd → DS → Prop} {Z : PyData → DS → Prop}
end
end DL
set_option Elab.async false
set_option linter.all false
set_option maxRecDepth 100000
set_option maxHeartbeats 4000000
namespace DL
open PySem PySem.Spec PyProof.Rows L2 StX
variable [Tb]
section
variable {X : Cx} {TL : XNames} {C : Addr} {n : Str} {sp : DSp} {ok : PyData → Prop} {wa : DA} {m : List Bool} {σ : L2.St} {H B G : Hp} {Q : VK} {δ : DS} {R : Opd → DS → Prop}
end
def anyD (_ : PyData) : Prop := True
def lenD (x : PyData) : Prop := ∃ m : Int, x = .int m ∧ 0 ≤ m ∧ m < 2 ^ 63
def strD (x : PyData) : Prop := ∃ s, x = .str s
def boolD (x : PyData) : Prop := ∃ s, x = .bool s
omit [Tb] in
@[simp] theorem anyD_ (x : PyData) : anyD x = True := rfl
omit [Tb] in
@[simp] theorem lenD_ (i : Int) : lenD (.int i) = (0 ≤ i ∧ i < 2 ^ 63) := propext ⟨fun ⟨m, e, h⟩ => by cases e; exact h, fun h => ⟨i, rfl, h⟩⟩
omit [Tb] in
@[simp] theorem strD_ (i : Str) : strD (.str i) = True := eq_true ⟨i, rfl⟩
omit [Tb] in
@[simp] theorem boolD_ (i : Bool) : boolD (.bool i) = True := eq_true ⟨i, rfl⟩
section
variable {X : Cx} {TL : XNames} {k : Nat} {f C p : Addr} {fd : FuncData} {ps : List Str} {sp : DSp} {o e : Expr} {es : List Expr} {w u : DE} {wa : DA} {n mn x : Str} {apos pos px : Pos} {m : List Bool}
def wCallO (m : List Bool) (n : Str) (sp : DSp) (w : DE) (wa : DA) : DEX := fun δ R Z => w δ fun o δ1 => obIs o δ1 n ∧ wSelfX m n sp (fun δ' K => wa δ' fun os δ2 => K (o :: os) δ2) δ1 R Z
omit [Tb] in
@[simp ↓] theorem wCallO_ap (m : List Bool) (n : Str) (sp : DSp) (w : DE) (wa : DA) (δ : DS) (R : Opd → DS → Prop) (Z : PyData → DS → Prop) : wCallO m n sp w wa δ R Z = (w δ fun o δ1 => obIs o δ1 n ∧ wSelfX m n sp (fun δ' K => wa δ' fun os δ2 => K (o :: os) δ2) δ1 R Z) := rfl
def wMethX (m : List Bool) (n mn : Str) (sp : DSp) (w : DE) (wa : DA) : DEX := fun δ R Z => w δ fun o δ1 => obHead o δ1 n mn ∧ wa δ1 fun os δ2 => lkM m (o :: os) δ2 fun os' δ3 => (slotsOf os').Nodup ∧ ask sp (os'.map (cellOf δ3)) (fun x cs => onX x (fun x => R (.d x) (putBack os' cs δ3)) (fun n fs => Z (excD n fs) (putBack os' cs δ3)) .mk) .mk
omit [Tb] in
@[simp ↓] theorem wMethX_ap (m : List Bool) (n mn : Str) (sp : DSp) (w : DE) (wa : DA) (δ : DS) (R : Opd → DS → Prop) (Z : PyData → DS → Prop) : wMethX m n mn sp w wa δ R Z = (w δ fun o δ1 => obHead o δ1 n mn ∧ wa δ1 fun os δ2 => lkM m (o :: os) δ2 fun os' δ3 => (slotsOf os').Nodup ∧ ask sp (os'.map (cellOf δ3)) (fun x cs => onX x (fun x => R (.d x) (putBack os' cs δ3)) (fun n fs => Z (excD n fs) (putBack os' cs δ3)) .mk) .mk) := rfl
end
def wInO (m : List Bool) (n : Str) (sp : DSp) (u w : DE) : DE := fun δ R => u δ fun i δ1 => w δ1 fun o δ2 => obIs o δ2 n ∧ lkM m [o, i] δ2 fun os' δ3 => (slotsOf os').Nodup ∧ ask sp (os'.map (cellOf δ3)) (fun x cs => boolD x ∧ R (.d x) (putBack os' cs δ3)) .mk
omit [Tb] in
@[simp ↓] theorem wInO_ap (m : List Bool) (n : Str) (sp : DSp) (u w : DE) (δ : DS) (R : Opd → DS → Prop) : wInO m n sp u w δ R = (u δ fun i δ1 => w δ1 fun o δ2 => obIs o δ2 n ∧ lkM m [o, i] δ2 fun os' δ3 => (slotsOf os').Nodup ∧ ask sp (os'.map (cellOf δ3)) (fun x cs => boolD x ∧ R (.d x) (putBack os' cs δ3)) .mk) := rfl
section
variable {X : Cx} {k : Nat} {f C : Addr} {fd : FuncData} {ps : List Str} {sp : DSp} {o e : Expr} {w u : DE} {n : Str} {pos : Pos} {m : List Bool}
end
end DL
set_option Elab.async false
set_option linter.all false
set_option maxRecDepth 100000
set_option maxHeartbeats 4000000
namespace DL
open PySem PySem.Spec PyProof.Rows L2 StX
variable [Tb]
section
variable {X : Cx} {CX : CXT} {k : Nat} {f C : Addr} {fd : FuncData} {ps : List Str} {sp : Sp} {E : L2.St → XK} {e : Expr} {es : List Expr} {t : TA} {x : Str} {pos p : Pos}
end
def wMakeX (n : Str) (sp : DSp) (w : DA) : DEX := fun δ R Z => w δ fun os δ1 => lkL os δ1 fun xs δ2 => ∀ a : Addr, ask sp (.ob a n [] :: xs.map Cell.d) (fun y cs => madeC cs n (fun fs => onX y (fun y => y = .none ∧ R (.d (obD n fs)) δ2) (fun n' fs' => Z (excD n' fs') δ2) .mk) .mk) .mk
omit [Tb] in
@[simp ↓] theorem wMakeX_ap (n : Str) (sp : DSp) (w : DA) (δ : DS) (R : Opd → DS → Prop) (Z : PyData → DS → Prop) : wMakeX n sp w δ R Z = (w δ fun os δ1 => lkL os δ1 fun xs δ2 => ∀ a : Addr, ask sp (.ob a n [] :: xs.map Cell.d) (fun y cs => madeC cs n (fun fs => onX y (fun y => y = .none ∧ R (.d (obD n fs)) δ2) (fun n' fs' => Z (excD n' fs') δ2) .mk) .mk) .mk) := rfl
section
variable {X : Cx} {TL : XNames} {k : Nat} {f C : Addr} {fd : FuncData} {ps : List Str} {sp : DSp} {e : Expr} {es : List Expr} {wa : DA} {n x : Str} {pos p : Pos}
end
end DL
set_option Elab.async false
set_option linter.all false
set_option maxRecDepth 100000
set_option maxHeartbeats 4000000
namespace DL
open PySem PySem.Spec PyProof.Rows L2
variable [Tb]
def fmtC (x : PyData) (k : Str → Prop) (_u : Stop k) : Prop := (∃ y : Str, x = .str y ∧ y.length ≤ sizeLine ∧ k y) ∨ ∃ i : Int, x = .int i ∧ i.natAbs.log2 < 1920 ∧ k (toString i : String)
omit [Tb] in
@[simp ↓] theorem fmtC_str (y : Str) (k : Str → Prop) (u : Stop k) : fmtC (.str y) k u = (y.length ≤ sizeLine ∧ k y) := propext (Iff.intro (fun h => by
  rcases h with ⟨z, e, h⟩ | ⟨i, e, _⟩
  · cases e; exact h
  · cases e) fun h => .inl ⟨y, rfl, h⟩)
omit [Tb] in
@[simp ↓] theorem fmtC_int (i : Int) (k : Str → Prop) (u : Stop k) : fmtC (.int i) k u = (i.natAbs.log2 < 1920 ∧ k (toString i : String)) := propext (Iff.intro (fun h => by
  rcases h with ⟨z, e, h⟩ | ⟨j, e, h⟩
  · cases e
  · cases e; exact h) fun h => .inr ⟨i, rfl, h⟩)
def wFmt (w : DE) : DE := fun δ R => w δ fun o δ1 => use o δ1 fun x => fmtC x (fun y => R (.d (.str y)) δ1) .mk
omit [Tb] in
@[simp ↓] theorem wFmt_ap (w : DE) (δ : DS) (R : Opd → DS → Prop) : wFmt w δ R = (w δ fun o δ1 => use o δ1 fun x => fmtC x (fun y => R (.d (.str y)) δ1) .mk) := rfl
def jsD : List DE → Str → DS → (Str → DS → Prop) → Prop
  | [], acc, δ, R => R acc δ
  | w :: ws, acc, δ, R => w δ fun o δ1 => use o δ1 fun x => strC x (fun y => (acc ++ y).length ≤ sizeLine ∧ jsD ws (acc ++ y) δ1 R) .mk
where strC (x : PyData) (k : Str → Prop) (_u : Stop k) : Prop := ∃ y, x = .str y ∧ k y
omit [Tb] in
@[simp ↓] theorem jsC_str (y : Str) (k : Str → Prop) (u : Stop k) : jsD.strC (.str y) k u = k y := propext ⟨fun ⟨z, e, h⟩ => by cases e; exact h, fun h => ⟨y, rfl, h⟩⟩
omit [Tb] in
@[simp ↓] theorem jsD_nil (acc : Str) (δ : DS) (R : Str → DS → Prop) : jsD [] acc δ R = R acc δ := rfl
omit [Tb] in
@[simp ↓] theorem jsD_cons (w : DE) (ws : List DE) (acc : Str) (δ : DS) (R : Str → DS → Prop) : jsD (w :: ws) acc δ R = (w δ fun o δ1 => use o δ1 fun x => jsD.strC x (fun y => (acc ++ y).length ≤ sizeLine ∧ jsD ws (acc ++ y) δ1 R) .mk) := rfl
def wJoinF (ws : List DE) : DE := fun δ R => jsD ws Str.empty δ fun y δ1 => R (.d (.str y)) δ1
omit [Tb] in
@[simp ↓] theorem wJoinF_ap (ws : List DE) (δ : DS) (R : Opd → DS → Prop) : wJoinF ws δ R = jsD ws Str.empty δ fun y δ1 => R (.d (.str y)) δ1 := rfl
inductive JJ (X : Cx) : List Expr → List DE → Prop
  | nil : JJ X [] []
  | cons {e : Expr} {w : DE} {es : List Expr} {ws : List DE} (h : JE X e w) (r : JJ X es ws) : JJ X (e :: es) (w :: ws)
section
variable {X : Cx} {e : Expr} {w : DE} {pos : Pos}
end
end DL
set_option Elab.async false
set_option linter.all false
set_option maxRecDepth 100000
set_option maxHeartbeats 4000000
namespace DL
open PySem PySem.Spec PyProof.Rows L2 StX
variable [Tb]
def wConO (i : Nat) (n f : Str) (x : PyData) : DE := fun δ R => ownC δ[i]? n (fun _ fs => fs.lookup f = none ∧ R (.d x) δ) .mk
omit [Tb] in
@[simp ↓] theorem wConO_ap (i : Nat) (n f : Str) (x : PyData) (δ : DS) (R : Opd → DS → Prop) : wConO i n f x δ R = ownC δ[i]? n (fun _ fs => fs.lookup f = none ∧ R (.d x) δ) .mk := rfl
section
variable {X : Cx} {e : Expr} {f n : Str} {pos : Pos} {C : Addr}
end
end DL
set_option Elab.async false
set_option linter.all false
set_option maxRecDepth 100000
set_option maxHeartbeats 4000000
namespace DL
open PySem PySem.Spec PyProof.Rows L2 StX
variable [Tb]
structure FnV (P : Program) (w : World) (K : PySem.W.Frag) (mg : Str → Option Value) (base : Heap) (CX : CXT) (k : Nat) (f : Addr) (sp : Sp) : Prop where
  run : ∀ (A : Around) (outer : List Env) (s : Shared) (H : Hp) (us : List Value) (vs : List V) (Q : VK) (E : XK), RoomG k A → Env0 P w K mg base A outer s H → Vals vs us → sp vs H Q E → codeAny (model P w) A (.call (.ref f) ⟨us, []⟩) (CR CX outer P w H s Q E) s
section
variable {P : Program} {w : World} {K : PySem.W.Frag} {mg : Str → Option Value} {base : Heap} {CX : CXT} {j k : Nat} {f : Addr} {fd : FuncData} {ps : List Str} {sp : Sp}
theorem FnV.mono (F : FnV P w K mg base CX j f sp) (h : j ≤ k) : FnV P w K mg base CX k f sp := ⟨fun A outer s H us vs Q E hr => F.run A outer s H us vs Q E (hr.mono h)⟩
theorem FnG.v (F : FnG P w K mg base CX k f fd ps sp) (hb : Binds K fd ps []) : FnV P w K mg base CX k f sp := ⟨fun A outer s H us vs Q E hr e0 r h => by
  have kin : K.In s.heap := e0.mod.kin.keeps fun b o e => (e0.bs b o e).1
  have many : (us ++ []).length = ps.length := (List.append_nil us).symm ▸ r.length.symm.trans (F.len _ _ _ _ h)
  have bound : BindsTo s fd ⟨us, []⟩ (ps.zip us) := by have := hb s us kin many; rwa [List.append_nil] at this
  exact F.run A outer s H ⟨us, []⟩ us vs Q E hr e0 bound r h⟩
end
section
variable {K : PySem.W.Frag} {B G H : Hp}
theorem Rel.snoc {cs : List Cell} {τ : L2.St} {v : V} {x : PyData} (R : Rel K B G cs τ H) (dn : Dn K G v x) : Rel K B G (cs ++ [.d x]) (τ ++ [some v]) H := by
  have get : ∀ {i : Nat} {c : Cell}, (cs ++ [Cell.d x])[i]? = some c → cs[i]? = some c ∨ (i = cs.length ∧ c = .d x) := fun {i c} e => by
    by_cases h : i < cs.length
    · rw [List.getElem?_append_left h] at e; exact .inl e
    · rw [List.getElem?_append_right (by omega)] at e
      obtain ⟨h1, h2⟩ := List.getElem?_eq_some_iff.mp e
      have : i = cs.length := by simp at h1; omega
      subst this
      simp at h2
      exact .inr ⟨rfl, h2.symm⟩
  have L := R.len
  refine ⟨by rw [List.length_append, List.length_append, L]; rfl, R.sg, R.sb, R.dj, fun i c o e1 e2 => ?_, fun i j c c' a e1 e2 m1 m2 => ?_, fun i c a e m => ?_, R.tt⟩
  · rcases get e1 with q | ⟨rfl, rfl⟩
    · have hi := (List.getElem?_eq_some_iff.mp q).1
      rw [List.getElem?_append_left (by omega)] at e2
      exact R.ok i c o q e2
    · rw [← L, List.getElem?_append_right (Nat.le_refl _)] at e2
      simp at e2
      exact ⟨v, e2.symm, dn⟩
  · rcases get e1 with q1 | ⟨_, rfl⟩
    · rcases get e2 with q2 | ⟨_, rfl⟩
      · exact R.ap i j c c' a q1 q2 m1 m2
      · cases m2
    · cases m1
  · rcases get e with q | ⟨_, rfl⟩
    · exact R.fr i c a q m
    · cases m
end
section
variable {P : Program} {w : World} {K : PySem.W.Frag} {mg : Str → Option Value} {base : Heap}
end
section
variable {X : Cx} {CX : CXT} {k : Nat} {f C a : Addr} {sp : Sp} {E : L2.St → XK} {pins : List (Addr × Obj)} {σ : L2.St} {H : Hp} {s : Shared} {Q : VK} {us : List Value} {vs : List V}
end
section
variable {X : Cx} {CX : CXT} {k : Nat} {f C : Addr} {sp : Sp} {E : L2.St → XK} {e : Expr} {es : List Expr} {ta : TE} {t : TA} {pos apos : Pos}
end
end DL
set_option Elab.async false
set_option linter.all false
set_option maxRecDepth 100000
set_option maxHeartbeats 4000000
namespace DL
open PySem PySem.Spec PyProof.Rows L2 StX
variable [Tb]
section
variable {X : Cx} {TL : XNames} {k : Nat} {f C : Addr} {sp : DSp} {o e : Expr} {es : List Expr} {w : DE} {wa r : DA} {n mn : Str} {apos pos p : Pos} {m : List Bool}
def wStar (w : DE) (r : DA) : DA := fun δ R => w δ fun o δ1 => use o δ1 fun x => ∃ xs, x = .tuple xs ∧ r δ1 fun os δ2 => R (xs.map Opd.d ++ os) δ2
def nmC (c : Option Cell) (k : Str → Prop) (_u : Stop k) : Prop := ∃ a x, c = some (.gx (.nm a x)) ∧ k x
omit [Tb] in
@[simp ↓] theorem nmC_of (a : Addr) (x : Str) (k : Str → Prop) (u : Stop k) : nmC (some (.gx (.nm a x))) k u = k x := propext ⟨fun ⟨_, _, e, h⟩ => by cases e; exact h, fun h => ⟨a, x, rfl, h⟩⟩
def altC (l : List (Str × DSp)) (x : Str) (k : DSp → Prop) (_u : Stop k) : Prop := ∃ sp, l.lookup x = some sp ∧ k sp
def wCallV (j : Nat) (l : List (Str × DSp)) (w : DA) : DEX := fun δ R Z => nmC δ[j]? (fun x => altC l x (fun sp => w δ fun os δ1 => lkL os δ1 fun xs δ2 => ask sp (xs.map Cell.d) (fun y _ => onX y (fun y => R (.d y) δ2) (fun n fs => Z (excD n fs) δ2) .mk) .mk) .mk) .mk
omit [Tb] in
@[simp ↓] theorem wCallV_ap (j : Nat) (l : List (Str × DSp)) (w : DA) (δ : DS) (R : Opd → DS → Prop) (Z : PyData → DS → Prop) : wCallV j l w δ R Z = nmC δ[j]? (fun x => altC l x (fun sp => w δ fun os δ1 => lkL os δ1 fun xs δ2 => ask sp (xs.map Cell.d) (fun y _ => onX y (fun y => R (.d y) δ2) (fun n fs => Z (excD n fs) δ2) .mk) .mk) .mk) .mk := rfl
omit [Tb] in
@[simp ↓] theorem wStar_ap (w : DE) (r : DA) (δ : DS) (R : List Opd → DS → Prop) : wStar w r δ R = (w δ fun o δ1 => use o δ1 fun x => ∃ xs, x = .tuple xs ∧ r δ1 fun os δ2 => R (xs.map Opd.d ++ os) δ2) := rfl
end
def Alts (X : Cx) (TL : XNames) (k : Nat) (l : List (Str × DSp)) : Prop := ∀ x sp, l.lookup x = some sp → ∃ f, PySem.W.nsIn X.K mainGlobals x = some (some (.ref f)) ∧ PySem.W.keepIn X.K (.ref f) = true ∧ FnV X.prog X.w X.K X.mg X.base (L2N.CX X.prog X.w) k f (liftSpX X.K TL sp)
theorem Alts.nil {X : Cx} {TL : XNames} {k : Nat} : Alts X TL k [] := fun x sp e => nomatch e
theorem Alts.cons {X : Cx} {TL : XNames} {k : Nat} {l : List (Str × DSp)} {x : Str} {sp : DSp} {f : Addr} (g : PySem.W.nsIn X.K mainGlobals x = some (some (.ref f))) (kp : PySem.W.keepIn X.K (.ref f) = true) (F : FnV X.prog X.w X.K X.mg X.base (L2N.CX X.prog X.w) k f (liftSpX X.K TL sp)) (r : Alts X TL k l) : Alts X TL k ((x, sp) :: l) := fun y sp' e => by
  rw [List.lookup_cons] at e
  cases h : y == x with
  | true =>
    rw [h] at e
    cases e
    rw [eq_of_beq h]
    exact ⟨f, g, kp, F⟩
  | false =>
    rw [h] at e
    exact r y sp' e
section
variable {X : Cx} {TL : XNames} {k j : Nat} {x : Str} {e : Expr} {es : List Expr} {wa : DA} {p pos : Pos} {l : List (Str × DSp)}
end
end DL
set_option Elab.async false
set_option linter.all false
set_option maxRecDepth 100000
set_option maxHeartbeats 4000000
namespace DL
open PySem PySem.Spec PyProof.Rows L2 StX
variable [Tb]
def dedC (x : PyData) (l : List (Str × Str)) (k : Str → Prop) (_u : Stop k) : Prop := ∃ s y, x = .str s ∧ l.lookup s = some y ∧ k y
def wDeed (i : Nat) (l : List (Str × Str)) (w : DE) : DTS := fun E δ => w δ fun o δ1 => use o δ1 fun x => dedC x l (fun y => ∀ a : Addr, E.nx (δ1.set i (.gx (.nm a y)))) .mk
omit [Tb] in
@[simp ↓] theorem wDeed_ap (i : Nat) (l : List (Str × Str)) (w : DE) (E : DEnds) (δ : DS) : wDeed i l w E δ = (w δ fun o δ1 => use o δ1 fun x => dedC x l (fun y => ∀ a : Addr, E.nx (δ1.set i (.gx (.nm a y)))) .mk) := rfl
section
variable {X : Cx} {e : Expr} {w : DE} {pos ps pd : Pos} {d x : Str} {i : Nat} {D : Addr} {l : List (Str × Str)}
end
section
variable {X : Cx} {CX : CXT} {k : Nat} {f C : Addr} {fd : FuncData} {ps : List Str} {sp : Sp} {E : L2.St → XK} {e : Expr} {es : List Expr} {ta : TE} {t : TA} {pos : Pos}
end
section
variable {X : Cx} {k : Nat} {f C : Addr} {fd : FuncData} {ps : List Str} {sp : DSp} {e : Expr} {es : List Expr} {wa : DA} {n x : Str} {pos px : Pos} {m : List Bool}
end
end DL
set_option Elab.async false
set_option linter.all false
set_option maxRecDepth 100000
set_option maxHeartbeats 400000
namespace DL
open PySem PySem.Spec PyProof.Rows L2 StX
variable [Tb]
def aliC (c d : Option Cell) (j i : Nat) (k : Prop) (_u : Stop k) : Prop := (∃ a n fs, c = some (.ob a n fs) ∧ (j = i ∨ ∃ x, d = some (.gx (.nm a x)))) ∧ k
omit [Tb] in
@[simp ↓] theorem aliC_self (d : Option Cell) (i : Nat) (a : Addr) (n : Str) (fs : List (Str × PyData)) (k : Prop) (u : Stop k) : aliC (some (.ob a n fs)) d i i k u = k := propext ⟨fun h => h.2, fun q => ⟨⟨a, n, fs, rfl, .inl rfl⟩, q⟩⟩
omit [Tb] in
@[simp ↓] theorem aliC_of (i j : Nat) (a : Addr) (n x : Str) (fs : List (Str × PyData)) (k : Prop) (u : Stop k) : aliC (some (.ob a n fs)) (some (.gx (.nm a x))) j i k u = k := propext ⟨fun h => h.2, fun q => ⟨⟨a, n, fs, rfl, .inr ⟨x, rfl⟩⟩, q⟩⟩
def wAli (j i : Nat) : DE := fun δ R => aliC δ[i]? δ[j]? j i (R (.s i) δ) .mk
omit [Tb] in
@[simp ↓] theorem wAli_ap (j i : Nat) (δ : DS) (R : Opd → DS → Prop) : wAli j i δ R = aliC δ[i]? δ[j]? j i (R (.s i) δ) .mk := rfl
section
variable {X : Cx} {x : Str} {pos : Pos} {i j : Nat}
end
section
variable {P : Program} {w : World} {K : PySem.W.Frag} {mg : Str → Option Value} {base : Heap}
end
section
variable {X : Cx} {pins : List (Addr × Obj)} {σ : L2.St} {H : Hp} {s : Shared} {i : Nat} {x : Str} {v : V}
end
def wIAddO (j i : Nat) (n : Str) (sp : DSp) (w : DE) : DTS := fun E δ => aliC δ[i]? δ[j]? j i (w δ fun o δ1 => lk o δ1 fun x δ2 => aliC δ2[i]? δ2[j]? j i (obIs (.s i) δ2 n ∧ ask sp [cellOf δ2 (.s i), .d x] (fun y cs => onX y (fun y => y = .none ∧ E.nx (putBack [.s i, .d x] cs δ2)) (fun n' fs' => E.rt (excD n' fs') (putBack [.s i, .d x] cs δ2)) .mk) .mk) .mk) .mk
def wSetO (j i : Nat) (n : Str) (sp : DSp) (w u : DE) : DTS := fun E δ => aliC δ[i]? δ[j]? j i (w δ fun o δ1 => u δ1 fun o2 δ2 => lk o δ2 fun x δ3 => lk o2 δ3 fun y δ4 => aliC δ4[i]? δ4[j]? j i (obIs (.s i) δ4 n ∧ ask sp [cellOf δ4 (.s i), .d y, .d x] (fun z cs => onX z (fun _ => E.nx (putBack [.s i, .d y, .d x] cs δ4)) (fun n' fs' => E.rt (excD n' fs') (putBack [.s i, .d y, .d x] cs δ4)) .mk) .mk) .mk) .mk
omit [Tb] in
@[simp ↓] theorem wIAddO_ap (j i : Nat) (n : Str) (sp : DSp) (w : DE) (E : DEnds) (δ : DS) : wIAddO j i n sp w E δ = aliC δ[i]? δ[j]? j i (w δ fun o δ1 => lk o δ1 fun x δ2 => aliC δ2[i]? δ2[j]? j i (obIs (.s i) δ2 n ∧ ask sp [cellOf δ2 (.s i), .d x] (fun y cs => onX y (fun y => y = .none ∧ E.nx (putBack [.s i, .d x] cs δ2)) (fun n' fs' => E.rt (excD n' fs') (putBack [.s i, .d x] cs δ2)) .mk) .mk) .mk) .mk := rfl
omit [Tb] in
@[simp ↓] theorem wSetO_ap (j i : Nat) (n : Str) (sp : DSp) (w u : DE) (E : DEnds) (δ : DS) : wSetO j i n sp w u E δ = aliC δ[i]? δ[j]? j i (w δ fun o δ1 => u δ1 fun o2 δ2 => lk o δ2 fun x δ3 => lk o2 δ3 fun y δ4 => aliC δ4[i]? δ4[j]? j i (obIs (.s i) δ4 n ∧ ask sp [cellOf δ4 (.s i), .d y, .d x] (fun z cs => onX z (fun _ => E.nx (putBack [.s i, .d y, .d x] cs δ4)) (fun n' fs' => E.rt (excD n' fs') (putBack [.s i, .d y, .d x] cs δ4)) .mk) .mk) .mk) .mk := rfl
section
variable {X : Cx} {TL : XNames} {k i j : Nat} {f C : Addr} {fd : FuncData} {ps : List Str} {sp : DSp} {e e2 : Expr} {w u : DE} {n x : Str} {pos pos' py : Pos}
end
end DL
set_option Elab.async false
set_option linter.all false
set_option maxRecDepth 100000
set_option maxHeartbeats 400000
namespace DL
open PySem PySem.Spec PyProof.Rows L2 StX
variable [Tb]
def outOb (cs : List Cell) (a : Addr) (n : Str) (k : List (Str × PyData) → Prop) (_u : Stop k) : Prop := ∃ fs r, cs = .ob a n fs :: r ∧ k fs
omit [Tb] in
@[simp ↓] theorem outOb_cons (a : Addr) (n : Str) (fs : List (Str × PyData)) (r : List Cell) (k : List (Str × PyData) → Prop) (u : Stop k) : outOb (.ob a n fs :: r) a n k u = k fs := propext ⟨fun ⟨_, _, e, h⟩ => by cases e; exact h, fun h => ⟨fs, r, rfl, h⟩⟩
abbrev DMX := DS → (Cell → DS → Prop) → (PyData → DS → Prop) → Prop
def mNX (w : DMX) : DM := fun δ R => w δ R fun _ _ => False
def mMakeX (n : Str) (sp : DSp) (w : DA) : DMX := fun δ R Z => w δ fun os δ1 => lkL os δ1 fun xs δ2 => ∀ a : Addr, ask sp (.ob a n [] :: xs.map Cell.d) (fun y cs => outOb cs a n (fun fs => onX y (fun y => y = .none ∧ R (.ob a n fs) δ2) (fun n' fs' => Z (excD n' fs') δ2) .mk) .mk) .mk
def wSetMX (i : Nat) (w : DMX) : DTS := fun E δ => w δ (fun c δ1 => E.nx (δ1.set i c)) E.rt
def mIf (t : DT) (a b : DM) : DM := fun δ R => t δ fun k δ1 => if k = true then a δ1 R else b δ1 R
omit [Tb] in
@[simp ↓] theorem mNX_ap (w : DMX) (δ : DS) (R : Cell → DS → Prop) : mNX w δ R = w δ R (fun _ _ => False) := rfl
omit [Tb] in
@[simp ↓] theorem mMakeX_ap (n : Str) (sp : DSp) (w : DA) (δ : DS) (R : Cell → DS → Prop) (Z : PyData → DS → Prop) : mMakeX n sp w δ R Z = (w δ fun os δ1 => lkL os δ1 fun xs δ2 => ∀ a : Addr, ask sp (.ob a n [] :: xs.map Cell.d) (fun y cs => outOb cs a n (fun fs => onX y (fun y => y = .none ∧ R (.ob a n fs) δ2) (fun n' fs' => Z (excD n' fs') δ2) .mk) .mk) .mk) := rfl
omit [Tb] in
@[simp ↓] theorem wSetMX_ap (i : Nat) (w : DMX) (E : DEnds) (δ : DS) : wSetMX i w E δ = w δ (fun c δ1 => E.nx (δ1.set i c)) E.rt := rfl
omit [Tb] in
@[simp ↓] theorem mIf_ap (t : DT) (a b : DM) (δ : DS) (R : Cell → DS → Prop) : mIf t a b δ R = (t δ fun k δ1 => if k = true then a δ1 R else b δ1 R) := rfl
section
variable {X : Cx} {TL : XNames} {k : Nat} {f C : Addr} {fd : FuncData} {ps : List Str} {sp : DSp} {e c a b : Expr} {es : List Expr} {wa : DA} {n x : Str} {pos p : Pos}
end
end DL
set_option Elab.async false
set_option linter.all false
set_option maxRecDepth 100000
set_option maxHeartbeats 4000000
namespace DL
open PySem PySem.Spec PyProof.Rows L2
variable [Tb]
def pMax3 : PN := fun ds R => match ds with
  | [.int x, .int y, .int z] => R (.int (max (max x y) z))
  | _ => False
omit [Tb] in
@[simp ↓] theorem pMax3_i (x y z : Int) (R : PyData → Prop) : pMax3 [.int x, .int y, .int z] R = R (.int (max (max x y) z)) := rfl
section
variable {X : Cx}
end
def lenSC (ds : List PyData) (k : Int → Prop) (_u : Stop k) : Prop := ∃ ns : List Int, ds = ns.map PyData.int ∧ ns.length ≤ 1000 ∧ ∀ L : List Int, L.Nodup → (∀ j, j ∈ L ↔ j ∈ ns) → k L.length
def wLenSet (w : DE) : DE := fun δ R => w δ fun o δ1 => use o δ1 fun x => ∃ ds, x = .tuple ds ∧ lenSC ds (fun n => R (.d (.int n)) δ1) .mk
omit [Tb] in
@[simp ↓] theorem wLenSet_ap (w : DE) (δ : DS) (R : Opd → DS → Prop) : wLenSet w δ R = (w δ fun o δ1 => use o δ1 fun x => ∃ ds, x = .tuple ds ∧ lenSC ds (fun n => R (.d (.int n)) δ1) .mk) := rfl
section
variable {X : Cx} {e : Expr} {w : DE}
end
omit [Tb] in
@[simp ↓] theorem varC_ob (a : Addr) (n : Str) (fs : List (Str × PyData)) (i : Nat) (k : Opd → Prop) (u : Stop k) : varC (some (.ob a n fs)) i k u = k (.s i) := rfl
@[simp ↓] theorem obIs_0 (a : Addr) (n : Str) (fs : List (Str × PyData)) (r : DS) : obIs (.s 0) (.ob a n fs :: r) n = True := eq_true ⟨a, fs, rfl⟩
end DL
set_option Elab.async false
set_option linter.all false
set_option maxRecDepth 100000
set_option maxHeartbeats 4000000
namespace DL
open PySem PySem.Spec PyProof.Rows L2
variable [Tb]
def asTx (x : PyData) (k : Str → Prop) (_u : Stop k) : Prop := ∃ s, x = .str s ∧ k s
omit [Tb] in
@[simp ↓] theorem asTx_s (s : Str) (k : Str → Prop) (u : Stop k) : asTx (.str s) k u = k s := propext ⟨fun ⟨t, e, h⟩ => by cases e; exact h, fun h => ⟨s, rfl, h⟩⟩
def wTexts : List (Str × DE) → DS → (List (Str × PyData) → DS → Prop) → Prop
  | [], δ, k => k [] δ
  | (s, w) :: r, δ, k => w δ fun o δ1 => lk o δ1 fun x δ2 => wTexts r δ2 fun kvs δ3 => k ((s, x) :: kvs) δ3
omit [Tb] in
@[simp ↓] theorem wTexts_nil (δ : DS) (k : List (Str × PyData) → DS → Prop) : wTexts [] δ k = k [] δ := rfl
omit [Tb] in
@[simp ↓] theorem wTexts_cons (s : Str) (w : DE) (r : List (Str × DE)) (δ : DS) (k : List (Str × PyData) → DS → Prop) : wTexts ((s, w) :: r) δ k = (w δ fun o δ1 => lk o δ1 fun x δ2 => wTexts r δ2 fun kvs δ3 => k ((s, x) :: kvs) δ3) := rfl
def lkS : List (Str × PyData) → Option PyData → Str → Option PyData
  | [], r, _ => r
  | p :: t, r, s => lkS t (if s = p.1 then some p.2 else r) s
def wTabGet (i : Nat) (ps : List (Str × DE)) (wk wd : DE) : DTS := fun E δ => wTexts ps δ fun kvs δ1 => ∀ a, wk (δ1.set i (.gx (.nm a ""))) fun o δ2 => wd δ2 fun o2 δ3 => use o δ3 fun x => asTx x (fun s => lk o2 δ3 fun y δ4 => E.rt ((lkS kvs none s).getD y) δ4) .mk
omit [Tb] in
@[simp ↓] theorem wTabGet_ap (i : Nat) (ps : List (Str × DE)) (wk wd : DE) (E : DEnds) (δ : DS) : wTabGet i ps wk wd E δ = (wTexts ps δ fun kvs δ1 => ∀ a, wk (δ1.set i (.gx (.nm a ""))) fun o δ2 => wd δ2 fun o2 δ3 => use o δ3 fun x => asTx x (fun s => lk o2 δ3 fun y δ4 => E.rt ((lkS kvs none s).getD y) δ4) .mk) := rfl
section
variable {X : Cx} {pins : List (Addr × Obj)}
variable {e f : Expr} {pos pos' dpos px apos cpos rpos : Pos} {x : Str} {i : Nat} {keys : List (Option Expr)} {values : List Expr}
end
end DL
set_option Elab.async false
set_option linter.all false
set_option maxRecDepth 100000
set_option maxHeartbeats 4000000
namespace DL
open PySem PySem.Spec PyProof.Rows L2
variable [Tb]
section
variable {P : Program} {w : World} {K : PySem.W.Frag} {mg : Str → Option Value} {base : Heap}
end
def wPairC (j i : Nat) (m : List Bool) (sp : DSp) (wa : DA) : DTS := fun E δ => wa δ fun os δ1 => lkM m os δ1 fun os' δ2 => os'.head? = some (.s i) ∧ (slotsOf os').Nodup ∧ ask sp (os'.map (cellOf δ2)) (fun x cs => onX x (fun x => E.nx ((putBack os' cs δ2).set j (.d x))) (fun n fs => E.rt (excD n fs) (putBack os' cs δ2)) .mk) .mk
omit [Tb] in
@[simp ↓] theorem wPairC_ap (j i : Nat) (m : List Bool) (sp : DSp) (wa : DA) (E : DEnds) (δ : DS) : wPairC j i m sp wa E δ = (wa δ fun os δ1 => lkM m os δ1 fun os' δ2 => os'.head? = some (.s i) ∧ (slotsOf os').Nodup ∧ ask sp (os'.map (cellOf δ2)) (fun x cs => onX x (fun x => E.nx ((putBack os' cs δ2).set j (.d x))) (fun n fs => E.rt (excD n fs) (putBack os' cs δ2)) .mk) .mk) := rfl
section
variable {X : Cx} {TL : XNames} {k i j : Nat} {f : Addr} {fd : FuncData} {ps : List Str} {sp : DSp} {e : Expr} {es : List Expr} {wa : DA} {x y g : Str} {pos px py tp gp cp : Pos} {kk : Nat} {m : List Bool}
end
end DL
set_option Elab.async false
set_option linter.all false
set_option maxRecDepth 100000
set_option maxHeartbeats 4000000
namespace DL
open PySem PySem.Spec PyProof.Rows L2 GenW
section
variable {X : Cx}
end
end DL
set_option Elab.async false
set_option linter.all false
set_option maxRecDepth 100000
set_option maxHeartbeats 4000000
namespace DL
open PySem PySem.Spec PyProof.Rows L2
variable [Tb]
structure FnH (P : Program) (w : World) (K : PySem.W.Frag) (mg : Str → Option Value) (base : Heap) (CX : CXT) (k : Nat) (f : Addr) (fd : FuncData) (ps : List Str) (sp : Sp) : Prop where
  len (vs : List V) (H : Hp) (Q : VK) (E : XK) (_ : sp vs H Q E) : vs.length = ps.length
  run : ∀ (A : Around) (outer : List Env) (s : Shared) (H : Hp) (args : Args) (us : List Value) (vs : List V) (Q : VK) (E : XK), Room k A → Env0 P w K mg base A outer s H →
    BindsTo s fd args (ps.zip us) → Vals vs us → sp vs H Q E → codeAny (model P w) A (.call (.ref f) args) (CR CX outer P w H s Q E) s
omit [Tb] in
theorem _root_.L2.Room.u64 {k : Nat} {A : Around} (r : Room k A) : A.units + 64 < cLine := r.units
section
variable {P : Program} {w : World} {K : PySem.W.Frag} {mg : Str → Option Value} {base : Heap} {CX : CXT}
omit [Tb] in
theorem FnH.mono {j k : Nat} {f : Addr} {fd : FuncData} {ps : List Str} {sp : Sp} (F : FnH P w K mg base CX j f fd ps sp) (h : j ≤ k) : FnH P w K mg base CX k f fd ps sp :=
  ⟨F.len, fun A outer s H args us vs Q E hr => F.run A outer s H args us vs Q E (hr.mono h)⟩
end
section
variable {X : Cx} {CX : CXT} {k : Nat} {f : Addr} {fd : FuncData} {ps : List Str} {x : Str} {p pos : Pos} {e : Expr} {es : List Expr}
end
abbrev DSpG := List Cell → (List PyData → Prop) → Prop
section
variable {X : Cx} {tg iter e : Expr} {wi : DL} {g : DTG} {w : DE} {ts : List Nat} {yp ep pos : Pos}
end
section
variable {P : Program} {w : World} {K : PySem.W.Frag} {mg : Str → Option Value} {base : Heap}
end
def wListG (i : Nat) (n mn : Str) (sp : DSpG) : DE := fun δ R => obHead (.s i) δ n mn ∧ sp [cellOf δ (.s i)] fun xs => R (.d (.list xs)) (putBack [.s i] [cellOf δ (.s i)] δ)
omit [Tb] in
@[simp ↓] theorem wListG_ap (i : Nat) (n mn : Str) (sp : DSpG) (δ : DS) (R : Opd → DS → Prop) : wListG i n mn sp δ R = (obHead (.s i) δ n mn ∧ sp [cellOf δ (.s i)] fun xs => R (.d (.list xs)) (putBack [.s i] [cellOf δ (.s i)] δ)) := rfl
section
variable {X : Cx} {k : Nat} {f C : Addr} {fd : FuncData} {ps : List Str} {n mn x : Str} {p apos cpos pos px : Pos} {i : Nat} {sp : DSpG}
end
end DL
set_option Elab.async false
set_option linter.all false
set_option maxRecDepth 100000
set_option maxHeartbeats 4000000
namespace DL
open PySem PySem.Spec PyProof.Rows L2 NdefX

abbrev lamO (F : NF) (body : Expr) (pm ctv : Value) : Obj := PySem.W.kla_obj F.name F.qual F.params body F.scope F.cl pm F.c ctv
abbrev LamB (F : NF) (body : Expr) (ps : List Str) : Prop := ∀ (pm cv ctv : Value) (us : List Value), us.length = ps.length → bindArgs (PySem.W.kla_fn F.name F.qual F.params body F.scope F.cl pm cv ctv) ⟨us, []⟩ = pure (ps.zip us)
section
variable {P : Program} {w : World} {K : PySem.W.Frag} {mg : Str → Option Value} {base : Heap} {N ps fr : List Str} {F : NF} {f : Addr} {k : Nat} {body : Expr} {tb : TE}
end
structure LamAt (Z : Cx) (ps fr N : List Str) (F : NF) (f : Addr) (body : Expr) (ws : List (Option V)) : Prop where
  sc : NScope N ps fr F.scope
  obj : ∃ pm ctv, Z.s_0.heap.get? f = some (lamO F body pm ctv)
  new : Z.H_0 f = none
  nfs : f ∉ Z.fs
  ex : Z.ex = []
  cells : CellsAt F.cl fr ws Z.s_0.heap Z.H_0
  bind : LamB F body ps
section
variable {Z : Cx} {ps fr N : List Str} {F : NF} {f : Addr} {body : Expr} {ws : List (Option V)} {k i : Nat} {a : Str} {e : Expr} {es : List Expr} {ta : TA} {tb : TE} {p pos : Pos}
end
end DL
set_option Elab.async false
set_option linter.all false
set_option maxRecDepth 100000
set_option maxHeartbeats 4000000
namespace DL
open PySem PySem.Spec PyProof.Rows L2 NdefX
variable [Tb]
def tlOf (bw : DE) (n m : Nat) (ds : List PyData) (xs : List PyData) (k : PyData → Prop) : Prop := xs.length = m ∧ bw (start0 n ((xs ++ ds).map Cell.d)) fun o δ' => lk o δ' fun y _ => k y
def wAct (i : Nat) (f : Addr) (m : Hp) (tl : List PyData → (PyData → Prop) → Prop) (wa : DA) : DE := fun δ R => δ[i]? = some (.fv f m) ∧ wa δ fun os δ1 => lkL os δ1 fun xs δ2 => tl xs fun y => R (.d y) δ2
omit [Tb] in
@[simp ↓] theorem wAct_ap (i : Nat) (f : Addr) (m : Hp) (tl : List PyData → (PyData → Prop) → Prop) (wa : DA) (δ : DS) (R : Opd → DS → Prop) : wAct i f m tl wa δ R = (δ[i]? = some (.fv f m) ∧ wa δ fun os δ1 => lkL os δ1 fun xs δ2 => tl xs fun y => R (.d y) δ2) := rfl
section
variable {K : PySem.W.Frag} {B G H : Hp} {δ : DS} {σ : L2.St}
theorem Rel.bare (R : Rel K B G δ σ H) : Rel K B G [] [] H :=
  ⟨rfl, R.sg, R.sb, R.dj, fun i c o e => by simp at e, fun i j c c' a e => by simp at e, fun i c a e => by simp at e, R.tt⟩
end
section
variable {Z : Cx} {ps fr N : List Str} {F : NF} {f : Addr} {body : Expr} {wv : List V} {ds : List PyData} {k i : Nat} {m : Hp} {a : Str} {e : Expr} {es : List Expr} {wa : DA} {bw : DE} {p pos : Pos}
end
end DL
set_option Elab.async false
set_option linter.all false
set_option maxRecDepth 100000
set_option maxHeartbeats 4000000
namespace DL
open PySem PySem.Spec PyProof.Rows L2 NdefX
variable [Tb]
abbrev LTl := List PyData → (PyData → Prop) → Prop
abbrev LSp := LTl → List PyData → (PyData → Prop) → Prop
abbrev takerX (P : Program) (w : World) (K : PySem.W.Frag) (mg : Str → Option Value) (base : Heap) (N : List Str) (qual : Str) (sc : Scope) (g : Addr) (cd : Value) (A : Around) (outer : List Env) (s : Shared) (H : Hp) : Cx := (cxOf CX0 P w K mg base N qual sc g cd A outer s H E0).nox
def Acts (Z : Cx) (f : Addr) (m : Hp) (tl : LTl) : Prop := ∀ (i : Nat) (a : Str) (e : Expr) (es : List Expr) (wa : DA) (p pos : Pos), Z.N[i]? = some a → Vis Z.env.scope a → JA Z (e :: es) wa → (a == ("__debug__" : Str)) = false → (a == ("__classdict__" : Str)) = false →
  starEach (e :: es) Z.env = (false, eval e Z.env) :: starEach es Z.env → (backTo pos (starEach es Z.env)).any (·.1) = false → JE Z (.Call (.Name a p) (e :: es) [] pos) (wAct i f m tl wa)
structure FnL (P : Program) (w : World) (K : PySem.W.Frag) (mg : Str → Option Value) (base : Heap) (k : Nat) (g : Addr) (fd : FuncData) (ps : List Str) (sp : LSp) : Prop where
  len : ∀ tl xs R, sp tl xs R → xs.length + 1 = ps.length
  run : ∀ (A : Around) (outer : List Env) (s : Shared) (H : Hp) (args : Args) (f : Addr) (us : List Value) (vs : List V) (m : Hp) (tl : LTl) (xs : List PyData) (R : PyData → Prop) (B G : Hp) (Q : VK), RoomG k A → Env0 P w K mg base A outer s H → BindsTo s fd args (ps.zip (.ref f :: us)) → Vals vs us →
    Rel K B G (.fv f m :: xs.map Cell.d) ((V.ref f :: vs).map some) H → (∀ (N : List Str) (qual : Str) (sc : Scope) (cd : Value), Acts (takerX P w K mg base N qual sc g cd A outer s H) f m tl) → sp tl xs R →
    (∀ v H' G' y, R y → Same G G' → Rel K B G' [] [] H' → Dn K G' v y → Q v H') → codeAny (model P w) A (.call (.ref g) args) (CR CX0 outer P w H s Q E0) s
section
variable {P : Program} {w : World} {K : PySem.W.Frag} {mg : Str → Option Value} {base : Heap}
theorem FnL.mono {j k : Nat} {g : Addr} {fd : FuncData} {ps : List Str} {sp : LSp} (F : FnL P w K mg base j g fd ps sp) (h : j ≤ k) : FnL P w K mg base k g fd ps sp :=
  ⟨F.len, fun A outer s H args f us vs m tl xs R B G Q hr => F.run A outer s H args f us vs m tl xs R B G Q (hr.mono h)⟩
end
section
variable {P : Program} {w : World} {K : PySem.W.Frag} {mg : Str → Option Value} {base : Heap}
end
def capC1 (c : Option Cell) (k : PyData → Prop) (_u : Stop k) : Prop := ∃ x, c = some (.d x) ∧ k x
def capC : List Nat → DS → (List PyData → Prop) → Prop
  | [], _, k => k []
  | j :: js, δ, k => capC1 δ[j]? (fun x => capC js δ fun ds => k (x :: ds)) .mk
omit [Tb] in
@[simp ↓] theorem capC1_d (x : PyData) (k : PyData → Prop) (u : Stop k) : capC1 (some (.d x)) k u = k x := propext ⟨fun ⟨y, e, h⟩ => by cases e; exact h, fun h => ⟨x, rfl, h⟩⟩
omit [Tb] in
@[simp ↓] theorem capC_nil (δ : DS) (k : List PyData → Prop) : capC [] δ k = k [] := rfl
omit [Tb] in
@[simp ↓] theorem capC_cons (j : Nat) (js : List Nat) (δ : DS) (k : List PyData → Prop) : capC (j :: js) δ k = capC1 δ[j]? (fun x => capC js δ fun ds => k (x :: ds)) .mk := rfl
def askL (sp : LSp) (tl : LTl) (xs : List PyData) (R : PyData → Prop) (_u : Stop R) : Prop := sp tl xs R
def wLam (js : List Nat) (n m : Nat) (bw : DE) (sp : LSp) (wa : DA) : DE := fun δ R => wa δ fun os δ1 => lkL os δ1 fun xs δ2 => capC js δ2 fun ds => askL sp (tlOf bw n m ds) xs (fun y => R (.d y) δ2) .mk
omit [Tb] in
@[simp ↓] theorem wLam_ap (js : List Nat) (n m : Nat) (bw : DE) (sp : LSp) (wa : DA) (δ : DS) (R : Opd → DS → Prop) : wLam js n m bw sp wa δ R = (wa δ fun os δ1 => lkL os δ1 fun xs δ2 => capC js δ2 fun ds => askL sp (tlOf bw n m ds) xs (fun y => R (.d y) δ2) .mk) := rfl
section
variable {K : PySem.W.Frag} {B G H : Hp} {δ : DS} {σ : L2.St}
end
section
variable {X : Cx} {k j : Nat} {g c P : Addr} {fd : FuncData} {ps lps fr N : List Str} {sp : LSp} {x : Str} {params : Arguments} {body e : Expr} {es : List Expr} {scope : Scope} {js : List Nat} {bw : DE} {wa : DA} {lpos p pos : Pos}
end
end DL
set_option Elab.async false
set_option linter.all false
set_option maxRecDepth 100000
set_option maxHeartbeats 4000000
namespace DL
open PySem PySem.Spec PyProof.Rows L2
noncomputable def tabH (K : PySem.W.Frag) (a : Addr) (vs : List Value) (ns : List Int) (cs : List (Addr × Addr)) : Hp := by
  classical
  exact fun b => if b ∈ cs.map Prod.snd then some (.tbl #[]) else scrH K a vs ns b
structure Tabled (K : PySem.W.Frag) (h : Heap) (cs : List (Addr × Addr)) : Prop where
  code : ∀ p ∈ cs, PySem.W.CodeHd h p.1 p.2
  tab : ∀ p ∈ cs, h.get? p.2 = some (PySem.W.tabObj #[])
  off : ∀ p ∈ cs, K.lookup p.2 = none
abbrev OneArgT (P : Program) (w : World) (K : PySem.W.Frag) (mg : Str → Option Value) (k : Nat) (fa : Addr) (x : Str) (sp : Sp) (cs : List (Addr × Addr)) (fd : FuncData) : Prop :=
  (∀ (s : Shared) (u : Value), BindsTo s fd ⟨[u], []⟩ [(x, u)]) ∧ ∀ base : Heap, K.In base → base.Ns mainGlobals mg → (∀ p ∈ cs, LamX.TabB base mg p.1 p.2) → FnG P w K mg base CX0 k fa fd [x] sp
theorem lawT {P : Program} {w : World} {K : PySem.W.Frag} {mg : Str → Option Value} {k : Nat} {fa a : Addr} {fd : FuncData} {x : Str} {sp : Sp} {s₁ : Shared} {vs : List Value} {ns : List Int} {cs : List (Addr × Addr)}
    (B : Began K mg s₁.heap) (hg : s₁.gens = #[]) (S : Script s₁.heap a vs ns) (Y : Tabled K s₁.heap cs) (hm : ∃ (bm : Addr) (ob : Obj), mg "__builtins__" = some (.ref bm) ∧ bm ≠ builtinsNs ∧ s₁.heap.get? bm = some ob ∧ ob.cls = .type "module" ∧ ob.dict = some builtinsNs ∧ ob.data = .plain)
    (hr : Room k callerA) (F : OneArgT P w K mg k fa x sp cs fd) (hsp : ∀ H : Hp, (∀ p ∈ cs, H p.2 = some (.tbl #[])) → SqL K H a (ns.map V.int) → sp [.ref a] H (fun v _ => v = .bl true) fun _ _ _ => False) :
    codeAny (model P w) callerA (.call (.ref fa) ⟨[.ref a], []⟩) (fun r z => r = .ok (.ret (.bool true)) ∧ OldK s₁.heap z.heap ∧ z.os = s₁.os ∧ AllBare z.gens) s₁ := by
  obtain ⟨KX, hns, ⟨mb, hb, hbb⟩, hlim⟩ := B
  obtain ⟨ha, hi, hl⟩ := S
  obtain ⟨hbind, F⟩ := F
  have rv := vals_ints hi
  have isT : ∀ {b : Addr}, b ∈ cs.map Prod.snd → s₁.heap.get? b = some (PySem.W.tabObj #[]) := fun h => by
    obtain ⟨p, hp, rfl⟩ := List.mem_map.mp h
    exact Y.tab p hp
  have aT : a ∉ cs.map Prod.snd := fun h => by
    have := isT h
    rw [ha] at this
    cases this
  obtain ⟨T, eT⟩ : ∃ T, tabH K a vs ns cs = T := ⟨_, rfl⟩
  have onT : ∀ {b : Addr}, b ∈ cs.map Prod.snd → T b = some (.tbl #[]) := fun h => by rw [← eT]; unfold tabH; exact if_pos h
  have offT : ∀ {b : Addr}, b ∉ cs.map Prod.snd → T b = scrH K a vs ns b := fun h => by rw [← eT]; unfold tabH; exact if_neg h
  have cases_ : ∀ {b : Addr} {u : HO}, T b = some u → (b ∈ cs.map Prod.snd ∧ u = .tbl #[]) ∨ (b = a ∧ K.lookup a = none ∧ u = .frz { cls := .type "list", data := .seq vs.toArray } (.lst (ns.map V.int))) := fun {b u} h => by
    by_cases m : b ∈ cs.map Prod.snd
    · rw [onT m] at h
      cases h
      exact .inl ⟨m, rfl⟩
    · rw [offT m] at h
      exact .inr (scrH_some h)
  have reads : SqL K T a (ns.map V.int) := by
    cases hk : K.lookup a with
    | none => exact .inl (.inr ⟨_, by rw [offT aT]; exact scrH_at hk⟩)
    | some o =>
      have e := KX a o hk
      rw [ha] at e
      cases e
      exact .inr ⟨_, vs.toArray, _, hk, rfl, rfl, rfl, by rw [List.size_toArray, hi.length]; exact hl, by simpa using rv⟩
  have hok : HOk P w T s₁.heap := fun b u q => by
    rcases cases_ q with ⟨m, rfl⟩ | ⟨rfl, _, rfl⟩
    · exact isT m
    · exact ⟨ha, (List.length_map (as := ns) V.int).symm ▸ hl, vs, _, rv, ha⟩
  have free : ∀ {b : Addr} {o : Obj}, s₁.heap.get? b = some o → (∀ vs n, o.data ≠ .seq vs n) → o.data ≠ .fields #[] → T b = none := fun {b o} e d d2 => by
    cases q : T b with
    | none => rfl
    | some u =>
      rcases cases_ q with ⟨m, _⟩ | ⟨rfl, _, _⟩
      · rw [isT m] at e
        cases e
        exact absurd rfl d2
      · rw [ha] at e
        cases e
        exact absurd rfl (d _ _)
  have names : ∀ {b : Addr} {m : Str → Option Value}, s₁.heap.Ns b m → (hidT s₁.heap T).Ns b m := fun {b m} ⟨o, es, ep, e, d, r⟩ =>
    ⟨o, es, ep, hidT_get e (free e (fun _ _ z => by rw [d] at z; cases z) fun z => by rw [d] at z; cases z), d, r⟩
  have kIn : K.In (hidT s₁.heap T) := fun b o e => hidT_get (KX b o e) (by
    cases q : T b with
    | none => rfl
    | some u =>
      rcases cases_ q with ⟨m, _⟩ | ⟨rfl, h2, _⟩
      · obtain ⟨p, hp, rfl⟩ := List.mem_map.mp m
        rw [Y.off p hp] at e
        cases e
      · rw [h2] at e
        cases e)
  have md : Mod K mg (hidT s₁.heap T) := ⟨kIn, names hns, ⟨mb, names hb, hbb⟩, let ⟨mc, h1, h2⟩ := hlim; ⟨mc, names h1, h2⟩⟩
  have tabs : ∀ p ∈ cs, LamX.TabB (hidT s₁.heap T) mg p.1 p.2 := fun p hp => by
    have tp := Y.tab p hp
    obtain ⟨o, us, file, tf, flags, tg, inF, text, tt, e, r1, r2, r3, rest⟩ := Y.code p hp
    obtain ⟨bm, ob, b1, b2, b3, b4, b5, b6⟩ := hm
    obtain ⟨on, es, ep, en, dn, _⟩ := id hns
    refine ⟨⟨o, us, file, tf, flags, tg, inF, text, tt, hidT_get e (free e (fun _ _ z => by rw [r2] at z; cases z) fun z => ?_), r1, r2, r3, rest⟩, ⟨bm, ob, b1, b2, fun q => ?_, fun q => ?_, hidT_get b3 (free b3 (fun _ _ z => by rw [b6] at z; cases z) fun z => by rw [b6] at z; cases z), b4, b5, b6⟩, fun q => ?_⟩
    · rw [r2] at z
      cases z
      simp at r3
    · rw [q, en] at b3
      cases b3
      rw [dn] at b6
      cases b6
    · rw [q, tp] at b3
      cases b3
      cases b6
    · rw [q, tp] at en
      cases en
      cases dn
  have env : Env0 P w K mg (hidT s₁.heap T) callerA [] s₁ T :=
    { frames := rfl, mod := md, bs := fun b o e => of_hidT e, bsz := Nat.le_of_eq (hidT_size _ _), funs := trivial, frf := fun b hb => (nomatch (show b ∈ ([] : List Addr) from hb)), hok := hok, bare := .of_eq hg }
  have run := (F _ kIn (names hns) tabs).run callerA [] s₁ T ⟨[.ref a], []⟩ [.ref a] [.ref a] _ _ (roomG_caller hr) env (hbind s₁ (.ref a)) (.cons rfl .nil) (hsp T (fun p hp => onT (List.mem_map.mpr ⟨p, hp, rfl⟩)) reads)
  have back : ∀ {H' : Hp} {z : Shared}, Un (frs []) [] T H' s₁.heap z.heap → HOk P w H' z.heap → OldK s₁.heap z.heap := fun {H' z} un ok => by
    have plain : ∀ {b : Addr} {o : Obj}, b ∉ cs.map Prod.snd → s₁.heap.get? b = some o → z.heap.get? b = some o := fun {b o} nb e => by
      cases q : T b with
      | none => exact un.keep b o e q (List.not_mem_nil) (by simp)
      | some t =>
        rcases cases_ q with ⟨m, _⟩ | ⟨rfl, _, rfl⟩
        · exact absurd m nb
        · exact (ok b _ (un.frzs b _ _ q)).1.trans (ha.symm.trans e)
    have grown : ∀ {b : Addr}, b ∈ cs.map Prod.snd → ∃ more : Array Value, z.heap.get? b = some (PySem.W.tabObj more) := fun {b} m => by
      obtain ⟨more, q⟩ := un.tbls b #[] (onT m)
      exact ⟨_, ok b _ q⟩
    refine ⟨fun b o e => ?_, fun b o e => ?_⟩
    · by_cases m : b ∈ cs.map Prod.snd
      · obtain ⟨more, q⟩ := grown m
        rw [isT m] at e
        cases e
        obtain ⟨p, hp, rfl⟩ := List.mem_map.mp m
        exact .inr (.inl ⟨((Y.code p hp).tab (Y.tab p hp)).isCodeTable, rfl, #[], more, rfl, by rw [Array.empty_append]; exact q⟩)
      · exact .inl (plain m e)
    · by_cases m : b ∈ cs.map Prod.snd
      · obtain ⟨more, q⟩ := grown m
        exact ⟨_, q⟩
      · exact ⟨o, plain m e⟩
  refine codeAny_mono run ?_
  rintro (e | _ | _ | _ | u) z h <;> try exact False.elim h
  obtain ⟨v, H', os, bare, un, ok, rv', rfl⟩ := h
  cases (show u = Value.bool true from rv')
  exact ⟨rfl, back un ok, os, bare⟩
theorem some_of {α : Type} {o : Option α} (h : o.isSome = true) : ∃ r, o = some r := Option.isSome_iff_exists.mp h
end DL
set_option Elab.async false
set_option linter.all false
set_option maxRecDepth 100000
set_option maxHeartbeats 4000000
namespace DL
open PySem PySem.Spec PyProof.Rows L2
theorem walkF {l : PySem.W.OpenLaw} {n k N : Nat} {q : Program} {loose : List Str} {XP : (Str → Option Value) → Heap → Prop} {d : DefRec} {fn : List DefF} {ex : List Ask} {tf : List He.Defn} {sp : PySem.W.Frag → Sp} {x : Str}
    (most : l.most = some n) (fits : n ≤ sizeLine) (plain : d.params.defaults = []) (room : Room k callerA)
    (law : ∀ (w : World) (mg : Str → Option Value) (fa : Addr) (h : Heap) (K : PySem.W.Frag), K.In h → Told fn ex tf h K → h.Ns mainGlobals mg → mg d.name = some (.ref fa) → ∃ fd : FuncData, OneArgT l.prog w K mg k fa x (sp K) (tf.map (He.cT K)) fd)
    (true' : ∀ (K : PySem.W.Frag) (H : Hp) (a : Addr) (ns : List Int), ns.length ≤ n → (∀ p ∈ tf, H (He.cT K p).2 = some (.tbl #[])) → SqL K H a (ns.map V.int) → sp K [.ref a] H (fun v _ => v = .bl true) fun _ _ _ => False) :
    PySem.W.WalkO q loose XP (hookF N fn ex tf).says l.row.toRowW d [] (fun f vs => PySem.call f vs) :=
  Att.attach_call most plain fun w _ s₁ mg mb fa _ _ _ _ a vs ns G Y _ _ _ at_law at_a are few calm => by
    obtain ⟨K, KX, T⟩ := Y
    obtain ⟨_, F⟩ := law w mg fa _ K KX T G.T.g at_law
    refine lawT ⟨KX, G.T.g, ⟨mb, G.T.b, G.T.builtins⟩, G.T.nolimit⟩ calm ⟨at_a, are, Nat.le_trans few fits⟩ ⟨fun p hp => ?_, fun p hp => ?_, fun p hp => ?_⟩ G.T.bmain room F fun H hT reads => true' K H a ns few (fun p hp => hT _ (List.mem_map.mpr ⟨p, hp, rfl⟩)) reads
    · obtain ⟨z, hz, rfl⟩ := List.mem_map.mp hp
      exact PySem.W.codeHd_of_K KX (T.hd z hz)
    · obtain ⟨z, hz, rfl⟩ := List.mem_map.mp hp
      exact T.empty z hz
    · obtain ⟨z, hz, rfl⟩ := List.mem_map.mp hp
      exact T.out z hz
section
variable {K : PySem.W.Frag} {h : Heap} {mg : Str → Option Value}
theorem aG_ok {x : Str} (c : aG x K = true) : PySem.W.nsIn K mainGlobals x = some (some (.ref (He.ga K x))) := He.eqO_ok c
theorem aZ_ok {x : Str} (c : aZ x K = true) : PySem.W.nsIn K mainGlobals x = some none := He.eqO_ok c
theorem aI_ok (X : K.In h) (G : h.Ns mainGlobals mg) {x : Str} {i : Int} (c : aI x i K = true) : ∃ t, mg x = some (.int i t) := He.int_ok X G c
theorem exLB_ok {C : Addr} {n : Str} (q : exLB K C n = true) : ∃ (nm q' : Str) (N : Addr) (bs bm : List Value) (sn : List Str) (sub : List Value) (ab : Bool) (col : Option Bool) (dd : Option Addr) (k0 k1 k2 k3 k5 : Option Value),
    K.lookup C = some (excClassObj nm q' C N bs bm true sn sub ab col dd k0 k1 k2 k3 k5 "ValueError.__new__") ∧ PySem.HandSPX.refsVE bm = true ∧ (PySem.W.clsIn K C).map (·.name) = some n := by
  unfold exLB at q
  split at q
  · rename_i dd cd sl ho
    have hc : PySem.W.clsIn K C = some cd := by unfold PySem.W.clsIn; rw [ho]
    split at q
    · rename_i C' bm k0 k1 k2 k3 nid k5 hm hs
      simp only [Bool.and_eq_true, beq_iff_eq, Bool.not_eq_true', decide_eq_true_eq] at q
      obtain ⟨rfl, rfl, hdel, hdict, hr, rfl⟩ := q
      rw [hc]
      obtain ⟨nm, bs, mro, ns, qn, hd, sn, sub, ab, col, del⟩ := cd
      dsimp only at hm hdel hdict
      subst hm hdel hdict
      have hsl : sl = #[k0, k1, k2, k3, some (.builtin "ValueError.__new__"), k5] := by
        obtain ⟨l⟩ := sl
        simp only at hs
        rw [hs]
      subst hsl
      exact ⟨nm, qn, ns, bs, bm, sn, sub, ab, col, dd, k0, k1, k2, k3, k5, ho, hr, rfl⟩
    · cases q
  · cases q
theorem aCF_ok {n : Str} (c : aCF n K = true) : CF K n (He.ga K n) := by
  obtain ⟨h1, c⟩ := He.ba c
  obtain ⟨h2, c⟩ := He.ba c
  obtain ⟨h3, c⟩ := He.ba c
  obtain ⟨h4, c⟩ := He.ba c
  obtain ⟨h5, c⟩ := He.ba c
  obtain ⟨h6, c⟩ := He.ba c
  obtain ⟨h7, c⟩ := He.ba c
  obtain ⟨h8, c⟩ := He.ba c
  obtain ⟨h9, c⟩ := He.ba c
  obtain ⟨h10, c⟩ := He.ba c
  obtain ⟨h11, h12⟩ := He.ba c
  obtain ⟨nm, q', N, bs, bm, sn, sub, ab, col, dd, k0, k1, k2, k3, k5, lc, bmv, cn⟩ := exLB_ok h1
  exact ⟨⟨⟨nm, q', N, bs, bm, sn, sub, ab, col, dd, k0, k1, k2, k3, k5, lc, bmv⟩, He.eqO_ok h2, of_decide_eq_true h3, of_decide_eq_true h4, h5⟩, cn, ⟨He.eqO_ok h6, He.eqO_ok h7, of_decide_eq_true h3, h8⟩, ⟨He.eqO_ok h6, He.eqO_ok h7, of_decide_eq_true h3, h8, He.eqO_ok h9, He.eqO_ok h10, of_decide_eq_true h11, of_decide_eq_true h12⟩⟩
theorem xCo_ok {fI C : Addr} {file : Str} (h : xCo K fI C file = true) {oc : Value} {od : Option Addr} {osl : Array (Option Value)} {fd : FuncData} (l : K.lookup fI = some ⟨oc, od, .func fd, osl⟩) : ∃ (cda : Addr) (y : Str) (cc : Addr), fd.code = .ref cda ∧ fd.closure = [(y, cc)] ∧
    (∃ (ccl : Value) (cdd : Option Addr) (cvs : Array Value) (ccs : Array (Option Value)) (tf : Tok), K.lookup cda = some ⟨ccl, cdd, .fields cvs, ccs⟩ ∧ cvs[2]? = some (.str file tf)) ∧ ∃ (cl : Value) (cld : Option Addr) (csl : Array (Option Value)), K.lookup cc = some ⟨cl, cld, .cell (some (.ref C)), csl⟩ := by
  unfold xCo at h
  rw [l] at h
  dsimp only at h
  split at h
  · rename_i cda y cc e1 e2
    obtain ⟨h1, h2⟩ := He.ba h
    refine ⟨cda, y, cc, e1, e2, ?_, ?_⟩
    · split at h1
      · rename_i ccl cdd cvs ccs q
        split at h1
        · rename_i f t q2
          rw [of_decide_eq_true h1]
          exact ⟨_, _, cvs, _, t, q, q2⟩
        · cases h1
      · cases h1
    · split at h2
      · rename_i cl cld D csl q
        rw [← (beq_iff_eq.mp h2 : D = C)]
        exact ⟨_, _, _, q⟩
      · cases h2
  · cases h
structure XFa (K : PySem.W.Frag) (n : Str) (fs : List Str) (file : Str) (qual : Str) (st : Stmt) : Prop where
  c : ∃ cd, PySem.W.clsIn K (He.ga K n) = some cd
  sub : PySem.W.mroIn K (He.ga K n) (.ref (He.ga K n)) = some true
  opq : PySem.W.nsIn K cStatics "thirdparty.any" = some none
  ini : PySem.W.ks_superIn K (He.ga K n) (He.ga K n) "__init__" = some (some (.builtin "ValueError.__init__"))
  ve : PySem.W.subIn K (.ref (He.ga K n)) (.type "ValueError") = some true
  iC : PySem.W.findIn K (.ref (He.ga K n)) "__init__" = some (some (.ref (He.ma K (He.ga K n) "__init__")))
  tI : PySem.W.typeIn K (.ref (He.ma K (He.ga K n) "__init__")) = some (.type "function")
  hsm : PySem.W.nsIn K mainGlobals "super" = some none
  hf : ∀ f ∈ fs, PySem.W.findIn K (.ref (He.ga K n)) f = some none
  lk : ∃ (oc : Value) (od : Option Addr) (dc pm : Value) (an : Option Addr) (cda cc : Addr) (ct : Value) (osl : Array (Option Value)) (ccl : Value) (cdd : Option Addr) (cvs : Array Value) (ccs : Array (Option Value)) (tf : Tok) (cl : Value) (cld : Option Addr) (csl : Array (Option Value)),
    K.lookup (He.ma K (He.ga K n) "__init__") = some ⟨oc, od, .func (PySem.W.fnX "__init__" qual (defArgs st) (defBody st) (defScope st) [("__class__", cc)] .none .none dc pm an (.ref cda) ct), osl⟩ ∧ PySem.W.codeIn K (.ref cda) qual = true ∧ K.lookup cda = some ⟨ccl, cdd, .fields cvs, ccs⟩ ∧ cvs[2]? = some (.str file tf) ∧ K.lookup cc = some ⟨cl, cld, .cell (some (.ref (He.ga K n))), csl⟩
theorem aX_ok {n : Str} {fs : List Str} {file qual : Str} {st : Stmt} (c : aX n fs file K = true) {d : DefF} (e : fnO K (d.at_ K) = d.val) (k : d.ok K = true) (hd : d = ⟨fun K => He.ma K (He.ga K n) "__init__", "__init__", qual, st, ["__class__"]⟩) : XFa K n fs file qual st := by
  obtain ⟨h1, c⟩ := He.ba c
  obtain ⟨h2, c⟩ := He.ba c
  obtain ⟨h3, c⟩ := He.ba c
  obtain ⟨h4, c⟩ := He.ba c
  obtain ⟨h5, c⟩ := He.ba c
  obtain ⟨h6, c⟩ := He.ba c
  obtain ⟨h7, c⟩ := He.ba c
  obtain ⟨h8, c⟩ := He.ba c
  obtain ⟨h9, h10⟩ := He.ba c
  obtain ⟨oc, od, kV, dc, pm, an, cd, ct, sl, cl, l, hcl, k1, _, kv⟩ := DefF.get e k
  subst hd
  obtain rfl := kv rfl
  obtain ⟨cda, y, cc, e1, e2, ⟨ccl, cdd, cvs, ccs, tf, q1, q2⟩, cl', cld, csl, q3⟩ := xCo_ok h10 l
  obtain rfl : cd = .ref cda := e1
  obtain rfl : cl = [(y, cc)] := e2
  obtain rfl : y = "__class__" := (List.cons.inj hcl).1
  exact ⟨Option.isSome_iff_exists.mp h1, of_decide_eq_true h2, He.eqO_ok h3, He.eqO_ok h4, of_decide_eq_true h5, He.eqO_ok h6, of_decide_eq_true h7, He.eqO_ok h8, fun f hf => He.eqO_ok (List.all_eq_true.mp h9 f hf),
    oc, od, dc, pm, an, cda, cc, ct, sl, ccl, cdd, cvs, ccs, tf, cl', cld, csl, l, k1, q1, q2, q3⟩
end
end DL
set_option Elab.async false
set_option linter.all false
set_option maxRecDepth 100000
set_option maxHeartbeats 4000000
namespace DL
open PySem PySem.Spec PyProof.Rows L2
end DL
set_option Elab.async false
set_option linter.all false
set_option maxRecDepth 100000
set_option maxHeartbeats 4000000
namespace DL
open PySem PySem.Spec PyProof.Rows L2
end DL
set_option Elab.async false
set_option linter.all false
set_option maxRecDepth 100000
set_option maxHeartbeats 4000000
namespace DL
open PySem PySem.Spec PyProof.Rows L2
variable [Tb]
section
variable {X : Cx} {TL : XNames} {CX : CXT} {k : Nat} {f C : Addr} {fd : FuncData} {ps ks : List Str} {sp : DSp} {n mn : Str} {o : Expr} {w wa : DE} {wk : DA} {kws : List Keyword} {apos pos : Pos} {m : List Bool}
end
end DL
set_option Elab.async false
set_option linter.all false
set_option maxRecDepth 100000
set_option maxHeartbeats 4000000
namespace DL
open PySem PySem.Spec PyProof.Rows L2 StX
variable [Tb]
section
variable {K : PySem.W.Frag} {B G H : Hp}
theorem Rel.consGx {t : GX} {cs : List Cell} {τ : L2.St} {o : Option V} (R : Rel K B G cs τ H) (hf : t.fp = []) (k : CellOk K G H (.gx t) o) : Rel K B G (.gx t :: cs) (o :: τ) H := by
  refine ⟨by simp [R.len], R.sg, R.sb, R.dj, fun i c w e1 e2 => ?_, fun i j c c' b e1 e2 m1 m2 => ?_, fun i c b e m => ?_, R.tt⟩
  · cases i with
    | zero => cases e1; cases e2; exact k
    | succ i => exact R.ok i c w e1 e2
  · cases i with
    | zero =>
      cases e1
      have m1 : b ∈ t.fp := m1
      rw [hf] at m1; cases m1
    | succ i =>
      cases j with
      | zero =>
        cases e2
        have m2 : b ∈ t.fp := m2
        rw [hf] at m2; cases m2
      | succ j => exact congrArg _ (R.ap i j c c' b e1 e2 m1 m2)
  · cases i with
    | zero =>
      cases e
      have m : b ∈ t.fp := m
      rw [hf] at m; cases m
    | succ i => exact R.fr i c b e m
theorem Rel.drop1 {c : Cell} {cs : List Cell} {τ : L2.St} {o : Option V} (R : Rel K B G (c :: cs) (o :: τ) H) : Rel K B G cs τ H :=
  ⟨by have := R.len; simpa using this, R.sg, R.sb, R.dj, fun i c w e1 e2 => R.ok (i + 1) c w e1 e2, fun i j c c' b e1 e2 m1 m2 => Nat.succ.inj (R.ap (i + 1) (j + 1) c c' b e1 e2 m1 m2), fun i c b e m => R.fr (i + 1) c b e m, R.tt⟩
end
section
variable {X : Cx} {CX : CXT} {k : Nat} {C p g q f : Addr} {mc : Value} {sp : Sp} {E : L2.St → XK} {o e : Expr} {es : List Expr} {m x : Str} {pos apos : Pos} {ta : TE} {t : TA} {pl : Sem Bool} {fd : FuncData} {ps : List Str} {j : Nat}
  {pins : List (Addr × Obj)} {σ : L2.St} {H : Hp} {s : Shared}
end
def wCMeth (n : Str) (sp : DSp) (wa : DA) : DEX := fun δ R Z => wa δ fun os δ1 => lkL os δ1 fun xs δ2 => ∀ a : Addr, ask sp (.gx (.nm a n) :: xs.map Cell.d) (fun y _ => onX y (fun y => R (.d y) δ2) (fun n' fs' => Z (excD n' fs') δ2) .mk) .mk
def wMakeL (j : Nat) (n : Str) (sp : DSp) (w : DA) : DEX := fun δ R Z => nmC δ[j]? (fun y => y = n ∧ wMakeX n sp w δ R Z) .mk
omit [Tb] in
@[simp ↓] theorem wCMeth_ap (n : Str) (sp : DSp) (wa : DA) (δ : DS) (R : Opd → DS → Prop) (Z : PyData → DS → Prop) : wCMeth n sp wa δ R Z = (wa δ fun os δ1 => lkL os δ1 fun xs δ2 => ∀ a : Addr, ask sp (.gx (.nm a n) :: xs.map Cell.d) (fun y _ => onX y (fun y => R (.d y) δ2) (fun n' fs' => Z (excD n' fs') δ2) .mk) .mk) := rfl
omit [Tb] in
@[simp ↓] theorem wMakeL_ap (j : Nat) (n : Str) (sp : DSp) (w : DA) (δ : DS) (R : Opd → DS → Prop) (Z : PyData → DS → Prop) : wMakeL j n sp w δ R Z = nmC δ[j]? (fun y => y = n ∧ wMakeX n sp w δ R Z) .mk := rfl
omit [Tb] in
theorem notX_ob (n : Str) (fs : List (Str × PyData)) : notX (obD n fs) := fun m gs e => by
  simp [obD, objD, excD] at e
omit [Tb] in
@[simp ↓] theorem onX_ob (n : Str) (fs : List (Str × PyData)) (k : PyData → Prop) (kx : Str → List (Str × PyData) → Prop) (u : Stop (k, kx)) : onX (obD n fs) k kx u = k (obD n fs) := onX_of (notX_ob n fs)
section
variable {X : Cx} {TL : XNames} {k j : Nat} {f C p g : Addr} {mc : Value} {fd : FuncData} {ps : List Str} {sp : DSp} {e : Expr} {es : List Expr} {wa : DA} {n x mn : Str} {pos apos px : Pos} {pl : Sem Bool}
def wPropX (m : List Bool) (n : Str) (sp : DSp) (w : DEX) : DEX := fun δ R Z => w δ (fun o δ2 => obIs o δ2 n ∧ lkM m [o] δ2 fun os' δ3 => (slotsOf os').Nodup ∧ ask sp (os'.map (cellOf δ3)) (fun x cs => R (.d x) (putBack os' cs δ3)) .mk) Z
omit [Tb] in
@[simp ↓] theorem wPropX_ap (m : List Bool) (n : Str) (sp : DSp) (w : DEX) (δ : DS) (R : Opd → DS → Prop) (Z : PyData → DS → Prop) : wPropX m n sp w δ R Z = w δ (fun o δ2 => obIs o δ2 n ∧ lkM m [o] δ2 fun os' δ3 => (slotsOf os').Nodup ∧ ask sp (os'.map (cellOf δ3)) (fun x cs => R (.d x) (putBack os' cs δ3)) .mk) Z := rfl
end
end DL
set_option Elab.async false
set_option linter.all false
set_option maxRecDepth 100000
set_option maxHeartbeats 4000000
namespace DL
open PySem PySem.Spec PyProof.Rows L2
variable [Tb]
def revS (z : Str) : Str := ⟨((Builtin.Str.strSliceIndices none none (-1) z.length).filterMap (z.cps[·]?)).toArray⟩
section
variable {X : Cx}
def wRevS (w : DE) : DE := fun δ R => w δ fun o δ1 => use o δ1 fun x => ∃ z, x = .str z ∧ z.length ≤ 1000000 ∧ R (.d (.str (revS z))) δ1
omit [Tb] in
@[simp ↓] theorem wRevS_ap (w : DE) (δ : DS) (R : Opd → DS → Prop) : wRevS w δ R = (w δ fun o δ1 => use o δ1 fun x => ∃ z, x = .str z ∧ z.length ≤ 1000000 ∧ R (.d (.str (revS z))) δ1) := rfl
end
end DL
set_option Elab.async false
set_option linter.all false
set_option maxRecDepth 100000
set_option maxHeartbeats 4000000
namespace DL
open PySem PySem.Spec PyProof.Rows L2 PySem.W PySem.Calls NdefX StX
variable [Tb]
structure SupC (K : PySem.W.Frag) (C f2 : Addr) : Prop where
  cd : ∃ cdD, clsIn K C = some cdD
  sub : mroIn K C (.ref C) = some true
  opq : nsIn K cStatics "thirdparty.any" = some none
  ini : ks_superIn K C C "__init__" = some (some (.ref f2))
  tf : typeIn K (.ref f2) = some (.type "function")
  fi : fnIn K f2 = true
structure SupF (P : Program) (K : PySem.W.Frag) (mg : Str → Option Value) (C cda cc : Addr) (qual : Str) : Prop where
  hcd : codeIn K (.ref cda) qual = true
  hcode : ∃ ccl cdd cvs ccs file tf, K.lookup cda = some ⟨ccl, cdd, .fields cvs, ccs⟩ ∧ cvs[2]? = some (.str file tf) ∧ ((P.main.file : Str) == file) = true
  hcell : ∃ cl cld csl, K.lookup cc = some ⟨cl, cld, .cell (some (.ref C)), csl⟩
  hsm : mg "super" = none
section
variable {CX : CXT} {P : Program} {w : World} {K : PySem.W.Frag} {mg : Str → Option Value} {base : Heap}
def wSupX (m : List Bool) (sp : DSp) (wa : DA) : DEX := fun δ R Z => wa δ fun os δ2 => lkM m (.s 0 :: os) δ2 fun os' δ4 => (slotsOf os').Nodup ∧ ask sp (os'.map (cellOf δ4)) (fun x cs => onX x (fun x => R (.d x) (putBack os' cs δ4)) (fun n fs => Z (excD n fs) (putBack os' cs δ4)) .mk) .mk
def wSup (m : List Bool) (sp : DSp) (wa : DA) : DTS := fun E δ => wSupX m sp wa δ (fun _ δ' => E.nx δ') E.rt
omit [Tb] in
@[simp ↓] theorem wSup_ap (m : List Bool) (sp : DSp) (wa : DA) (E : DEnds) (δ : DS) : wSup m sp wa E δ = (wa δ fun os δ2 => lkM m (.s 0 :: os) δ2 fun os' δ4 => (slotsOf os').Nodup ∧ ask sp (os'.map (cellOf δ4)) (fun x cs => onX x (fun x => E.nx (putBack os' cs δ4)) (fun n fs => E.rt (excD n fs) (putBack os' cs δ4)) .mk) .mk) := rfl
end
end DL
set_option Elab.async false
set_option linter.all false
set_option maxRecDepth 100000
set_option maxHeartbeats 4000000
namespace DL
open PySem PySem.Spec PyProof.Rows L2 StX
variable [Tb]
section
variable {K : PySem.W.Frag}
theorem rel_endB {B0 B G G' H H' : Hp} {cs : List Cell} {vs : List V} {δ : DS} {σ : L2.St} (R0 : Rel K B0 G cs (vs.map some) H) (R : Rel K B G' δ σ H') (s : Same G G') (io : sameIo cs δ) : Rel K B G' (outC cs δ) (vs.map some) H' := by
  refine ⟨by rw [outC_len io, ← R0.len], R.sg, R.sb, R.dj, fun i c o e1 e2 => ?_, fun i j c c' a e1 e2 m1 m2 => ?_, fun i c a e m => ?_, R.tt⟩
  · obtain ⟨c0, e0, q⟩ := outC_at io e1
    have ok0 := R0.ok i c0 o e0 e2
    rcases q with ⟨h, rfl⟩ | ⟨a, xs, ys, rfl, rfl, ed⟩ | ⟨a, b, d, rfl, rfl, ed⟩ | ⟨a, xs, ys, rfl, rfl, ed⟩ | ⟨a, n, xs, ys, rfl, rfl, ed⟩ | ⟨t, u, rfl, rfl, eh, ed⟩
    · rcases h with ⟨x, rfl⟩ | rfl | ⟨a, ns, rfl⟩
      · obtain ⟨v, e, dn⟩ := ok0; exact ⟨v, e, dn.mono s⟩
      · trivial
      · exact ⟨ok0.1, s.seq ok0.2⟩
    · obtain ⟨o', _, _, r⟩ := R.at ed
      exact ⟨ok0.1, r⟩
    · obtain ⟨o', _, _, r⟩ := R.at ed
      exact ⟨ok0.1, r⟩
    · obtain ⟨o', _, _, r⟩ := R.at ed
      exact ⟨ok0.1, r⟩
    · obtain ⟨o', _, _, r⟩ := R.at ed
      exact ⟨ok0.1, r⟩
    · obtain ⟨o', _, _, r⟩ := R.at ed
      exact ⟨by rw [eh]; exact ok0.1, r⟩
  · obtain ⟨c0, e0, q⟩ := outC_at io e1
    obtain ⟨c1, e3, q'⟩ := outC_at io e2
    have h1 : δ[i]? = some c := by
      rcases q with ⟨h, rfl⟩ | ⟨a, xs, ys, rfl, rfl, ed⟩ | ⟨a, b, d, rfl, rfl, ed⟩ | ⟨a, xs, ys, rfl, rfl, ed⟩ | ⟨a, n, xs, ys, rfl, rfl, ed⟩ | ⟨t, u, rfl, rfl, eh, ed⟩
      · rcases h with ⟨x, rfl⟩ | rfl | ⟨a, ns, rfl⟩ <;> cases m1
      · exact ed
      · exact ed
      · exact ed
      · exact ed
      · exact ed
    have h2 : δ[j]? = some c' := by
      rcases q' with ⟨h, rfl⟩ | ⟨a, xs, ys, rfl, rfl, ed⟩ | ⟨a, b, d, rfl, rfl, ed⟩ | ⟨a, xs, ys, rfl, rfl, ed⟩ | ⟨a, n, xs, ys, rfl, rfl, ed⟩ | ⟨t, u, rfl, rfl, eh, ed⟩
      · rcases h with ⟨x, rfl⟩ | rfl | ⟨a, ns, rfl⟩ <;> cases m2
      · exact ed
      · exact ed
      · exact ed
      · exact ed
      · exact ed
    exact R.ap i j c c' a h1 h2 m1 m2
  · obtain ⟨c0, e0, q⟩ := outC_at io e
    have h1 : δ[i]? = some c := by
      rcases q with ⟨h, rfl⟩ | ⟨a, xs, ys, rfl, rfl, ed⟩ | ⟨a, b, d, rfl, rfl, ed⟩ | ⟨a, xs, ys, rfl, rfl, ed⟩ | ⟨a, n, xs, ys, rfl, rfl, ed⟩ | ⟨t, u, rfl, rfl, eh, ed⟩
      · rcases h with ⟨x, rfl⟩ | rfl | ⟨a, ns, rfl⟩ <;> cases m
      · exact ed
      · exact ed
      · exact ed
      · exact ed
      · exact ed
    exact R.fr i c a h1 m
end
abbrev DSpMX := List Cell → (Cell → List Cell → Prop) → (PyData → List Cell → Prop) → Prop
def askMX (sp : DSpMX) (cs : List Cell) (R : Cell → List Cell → Prop) (Z : PyData → List Cell → Prop) (_u : Stop (R, Z)) : Prop := sp cs R Z
abbrev DTM := (Cell → DS → Prop) → (PyData → DS → Prop) → DS → Prop
def isX (x : PyData) : Prop := ∃ n fs, x = excD n fs
omit [Tb] in
@[simp] theorem isX_exc (n : Str) (fs : List (Str × PyData)) : isX (excD n fs) = True := eq_true ⟨n, fs, rfl⟩
def mRetM (w : DMX) : DTM := fun R Z δ => w δ R Z
def wSeqM (t : DTS) (u : DTM) : DTM := fun R Z δ => t { nx := u R Z, rt := fun x δ' => isX x ∧ Z x δ' } δ
omit [Tb] in
@[simp ↓] theorem mRetM_ap (w : DMX) (R : Cell → DS → Prop) (Z : PyData → DS → Prop) (δ : DS) : mRetM w R Z δ = w δ R Z := rfl
omit [Tb] in
@[simp ↓] theorem wSeqM_ap (t : DTS) (u : DTM) (R : Cell → DS → Prop) (Z : PyData → DS → Prop) (δ : DS) : wSeqM t u R Z δ = t { nx := u R Z, rt := fun x δ' => isX x ∧ Z x δ' } δ := rfl
def mMakeL (j : Nat) (n : Str) (sp : DSp) (w : DA) : DMX := fun δ R Z => nmC δ[j]? (fun y => y = n ∧ mMakeX n sp w δ R Z) .mk
omit [Tb] in
@[simp ↓] theorem mMakeL_ap (j : Nat) (n : Str) (sp : DSp) (w : DA) (δ : DS) (R : Cell → DS → Prop) (Z : PyData → DS → Prop) : mMakeL j n sp w δ R Z = nmC δ[j]? (fun y => y = n ∧ mMakeX n sp w δ R Z) .mk := rfl
section
variable {X : Cx} {TL : XNames} {st : Stmt} {rest : List Stmt} {e : Expr} {pos : Pos}
end
section
variable {P : Program} {w : World} {K : PySem.W.Frag} {mg : Str → Option Value} {base : Heap}
end
def mIfX (t : DT) (a b : DMX) : DMX := fun δ R Z => t δ fun k δ1 => if k = true then a δ1 R Z else b δ1 R Z
omit [Tb] in
@[simp ↓] theorem mIfX_ap (t : DT) (a b : DMX) (δ : DS) (R : Cell → DS → Prop) (Z : PyData → DS → Prop) : mIfX t a b δ R Z = (t δ fun k δ1 => if k = true then a δ1 R Z else b δ1 R Z) := rfl
section
variable {X : Cx} {TL : XNames} {k j : Nat} {f C p g : Addr} {mc : Value} {fd : FuncData} {ps : List Str} {sp : DSp} {e : Expr} {es : List Expr} {wa : DA} {n x mn : Str} {pos apos px : Pos} {pl : Sem Bool}
def mCMeth (n : Str) (sp : DSpMX) (wa : DA) : DMX := fun δ R Z => wa δ fun os δ1 => lkL os δ1 fun xs δ2 => ∀ a : Addr, askMX sp (.gx (.nm a n) :: xs.map Cell.d) (fun c _ => R c δ2) (fun x _ => onX x (fun _ => False) (fun n' fs' => Z (excD n' fs') δ2) .mk) .mk
omit [Tb] in
@[simp ↓] theorem mCMeth_ap (n : Str) (sp : DSpMX) (wa : DA) (δ : DS) (R : Cell → DS → Prop) (Z : PyData → DS → Prop) : mCMeth n sp wa δ R Z = (wa δ fun os δ1 => lkL os δ1 fun xs δ2 => ∀ a : Addr, askMX sp (.gx (.nm a n) :: xs.map Cell.d) (fun c _ => R c δ2) (fun x _ => onX x (fun _ => False) (fun n' fs' => Z (excD n' fs') δ2) .mk) .mk) := rfl
end
end DL
set_option Elab.async false
set_option linter.all false
set_option maxRecDepth 100000
set_option maxHeartbeats 4000000
namespace DL
open PySem PySem.Spec PyProof.Rows L2 StX
variable [Tb]
def KM0 (K : PySem.W.Frag) (fd : FuncData) (ps ks : List Str) (ix : List Nat) : Prop :=
  ∀ (s : Shared) (u0 : Value) (ws : List Value), K.In s.heap → ws.length = ks.length → BindsTo s fd ⟨[u0], ks.zip ws⟩ (ps.zip (u0 :: permO Value.none ix ws))
section
variable {X : Cx} {CX : CXT} {k : Nat} {f C : Addr} {fd : FuncData} {ps ks : List Str} {sp : Sp} {E : L2.St → XK} {x : Str} {kws : List Keyword} {tk : TA} {pos p : Pos} {ix : List Nat}
end
def mMakeXK (m : Nat) (ix : List Nat) (n : Str) (sp : DSp) (w : DA) : DMX := fun δ R Z => w δ fun os δ1 => lkL os δ1 fun xs δ2 => (xs.length = m ∧ ∀ i ∈ ix, i < m) ∧ ∀ a : Addr, ask sp (.ob a n [] :: (permO .none ix xs).map Cell.d) (fun y cs => outOb cs a n (fun fs => onX y (fun y => y = .none ∧ R (.ob a n fs) δ2) (fun n' fs' => Z (excD n' fs') δ2) .mk) .mk) .mk
omit [Tb] in
@[simp ↓] theorem mMakeXK_ap (m : Nat) (ix : List Nat) (n : Str) (sp : DSp) (w : DA) (δ : DS) (R : Cell → DS → Prop) (Z : PyData → DS → Prop) : mMakeXK m ix n sp w δ R Z = (w δ fun os δ1 => lkL os δ1 fun xs δ2 => (xs.length = m ∧ ∀ i ∈ ix, i < m) ∧ ∀ a : Addr, ask sp (.ob a n [] :: (permO .none ix xs).map Cell.d) (fun y cs => outOb cs a n (fun fs => onX y (fun y => y = .none ∧ R (.ob a n fs) δ2) (fun n' fs' => Z (excD n' fs') δ2) .mk) .mk) .mk) := rfl
section
variable {X : Cx} {TL : XNames} {k mk : Nat} {f C : Addr} {fd : FuncData} {ps ks : List Str} {sp : DSp} {kws : List Keyword} {wa : DA} {n x : Str} {pos p : Pos} {ix : List Nat}
end
def wIsO (i : Nat) (n : Str) (b : Bool) : DE := fun δ R => ownC δ[i]? n (fun _ _ => R (.d (.bool b)) δ) .mk
omit [Tb] in
@[simp ↓] theorem wIsO_ap (i : Nat) (n : Str) (b : Bool) (δ : DS) (R : Opd → DS → Prop) : wIsO i n b δ R = ownC δ[i]? n (fun _ _ => R (.d (.bool b)) δ) .mk := rfl
def wOrS (a b : DTS) : DTS := fun E δ => a E δ ∨ b E δ
omit [Tb] in
@[simp ↓] theorem wOrS_ap (a b : DTS) (E : DEnds) (δ : DS) : wOrS a b E δ = (a E δ ∨ b E δ) := rfl
section
variable {X : Cx} {TL : XNames} {C C2 : Addr} {n n2 y : Str} {b : Bool} {i : Nat} {px py pc pos : Pos}
end
end DL
set_option Elab.async false
set_option linter.all false
set_option maxRecDepth 100000
set_option maxHeartbeats 4000000
namespace DL
open PySem PySem.Spec PyProof.Rows L2 HotX
section
variable {prog : Program} {w : World} {A : Around} {E : Value → Shared → Prop} {s : Shared}
end
section
variable {X : Cx} {pos : Pos}
end
end DL
set_option Elab.async false
set_option linter.all false
set_option maxRecDepth 100000
set_option maxHeartbeats 4000000
namespace DL
open PySem PySem.Spec PyProof.Rows L2 HotX
structure TurnQ (P : Program) (w : World) (K : PySem.W.Frag) (tg : Expr) (J : It) (it : Addr) (at_ : Nat → Heap → Prop) : Prop where
  obj : ∀ i h, at_ i h → ∃ o, h.get? it = some o ∧ ∀ v, o.data ≠ .cell v
  keep : ∀ i h h', at_ i h → (∀ o, h.get? it = some o → h'.get? it = some o) → at_ i h'
  item : ∀ (X : Cx), X.prog = P → X.w = w → X.K = K → ∀ (i : Nat) (pins : List (Addr × Obj)) (s : Shared) (σ : L2.St) (H : Hp) (E : Value → Shared → Prop), Inv X pins σ H s → FpOk X pins H it → at_ i s.heap → J.go i H →
    wpAny (model P w) X.A (pyNext (.ref it)) (fun r s1 => ∃ u, r = some u ∧ wpAny (model P w) X.A (letOwnedTupleGo tg (.ref it) u) (fun _ s2 => ∃ x, Inv X pins σ H s2 ∧ RelV x u ∧ J.yld i H x H ∧ at_ (i + 1) s2.heap) E s1) E s
  done : ∀ (X : Cx), X.prog = P → X.w = w → X.K = K → ∀ (x1 : Addr) (i : Nat) (pins : List (Addr × Obj)) (s : Shared) (σ : L2.St) (H : Hp) (E : Value → Shared → Prop), HotAt X.A x1 s.heap → Inv X pins σ H s → FpOk X pins H it → at_ i s.heap → J.stop i H →
    wpAny (model P w) X.A (pyNext (.ref it)) (fun r s1 => r = none ∧ Inv X pins σ H s1) E s
  self : ∀ (A : Around) (i : Nat) (s : Shared) (Q : Value → Shared → Prop) (E : Value → Shared → Prop), at_ i s.heap → Q (.ref it) s → wpAny (model P w) A (pyIter (.ref it)) Q E s
section
variable {P : Program} {w : World} {K : PySem.W.Frag} {tg : Expr}
end
def CameQ (X : Cx) (pins : List (Addr × Obj)) (σ : L2.St) (tg : Expr) (R : It → Hp → Prop) (u : Value) (s : Shared) : Prop :=
  ∃ (it : Addr) (at_ : Nat → Heap → Prop) (J : It) (H' : Hp), u = .ref it ∧ Inv X pins σ H' s ∧ TurnQ X.prog X.w X.K tg J it at_ ∧ at_ 0 s.heap ∧ FpOk X pins H' it ∧ R J H'
structure PIQ (X : Cx) (tg iter : Expr) (wi : TI) : Prop where
  run : ∀ (pins : List (Addr × Obj)) (s : Shared) (σ : L2.St) (H : Hp) (R : It → Hp → Prop), Inv X pins σ H s → wi σ H R →
    wpAny (model X.prog X.w) X.A (eval iter X.env) (fun v s1 => wpAny (model X.prog X.w) X.A (pyIter v) (CameQ X pins σ tg R) X.xe s1) X.xe s
section
variable {X : Cx} {tg : Expr}
end
end DL
set_option Elab.async false
set_option linter.all false
set_option maxRecDepth 100000
set_option maxHeartbeats 4000000
namespace DL
open PySem PySem.Spec PyProof.Rows L2 HotX
section
variable {X : Cx}
end
end DL
set_option Elab.async false
set_option linter.all false
set_option maxRecDepth 100000
set_option maxHeartbeats 4000000
namespace DL
open PySem PySem.Spec PyProof.Rows L2
variable [Tb]
omit [Tb] in
theorem _root_.L2H.RoomH.u64 {k : Nat} {A : Around} (r : L2H.RoomH k A) : A.units + 64 < cLine := by have := r.un; omega
omit [Tb] in
theorem _root_.L2H.FnH.mono {P : Program} {w : World} {K : PySem.W.Frag} {mg : Str → Option Value} {base : Heap} {CX : CXT} {j k : Nat} {f : Addr} {fd : FuncData} {ps : List Str} {sp : Sp} (F : L2H.FnH P w K mg base CX j f fd ps sp) (h : j ≤ k) : L2H.FnH P w K mg base CX k f fd ps sp :=
  ⟨F.len, fun A outer s H args us vs Q E p hr => F.run A outer s H args us vs Q E p (hr.mono h)⟩
section
variable {X : Cx} {tg : Expr} {pos : Pos}
end
section
variable {P : Program} {w : World} {K : PySem.W.Frag} {mg : Str → Option Value} {base : Heap}
end
section
variable {X : Cx} {k : Nat} {f : Addr} {fd : FuncData} {ps : List Str} {x : Str} {p pos : Pos} {e : Expr} {es : List Expr}
end
end DL
set_option Elab.async false
set_option linter.all false
set_option maxRecDepth 100000
set_option maxHeartbeats 4000000
namespace DL
open PySem PySem.Spec PyProof.Rows L2
variable [Tb]
omit [Tb] in
theorem xe_wide {X : Cx} {W : WX} {u : Value} {s' : Shared} (x : L2N.XE X W u s') : L2.XE X W u s' := by
  obtain ⟨a, B, sI, pins, σ, H, cls, d, e, I, nb, up, sky, na, os, ag, w⟩ := x
  refine ⟨a, B, sI, pins, σ, H, cls, d, e, I, nb, up, ?_, na, os, ag, w⟩
  rcases sky with ⟨h1, h2, h3, oe, vs, h4, h5, h6⟩ | h | h
  · exact .inl ⟨h1, h2, h3, oe, vs, h4, h5.zc, h6⟩
  · exact .inr (.inl (L2H.flyingZ_imp (fun o z => z.zc) h))
  · exact .inr (.inr ⟨h.1, h.2.1, h.2.2.1, L2H.tracedZ_imp (fun o z => z.zc) h.2.2.2⟩)
omit [Tb] in
theorem takes_wide {X : Cx} {W : WX} (t : L2.Takes X W) : L2N.Takes X W := fun u s' x => t u s' (xe_wide x)
structure EndsC (X : Cx) (TL : XNames) (B G : Hp) (E : DEnds) (D : Ends) : Prop extends EndsOk X.K B G E D where
  tk : L2.Takes X (wxOf X.K TL B G E.rt)
theorem EndsC.x {X : Cx} {TL : XNames} {B G : Hp} {E : DEnds} {D : Ends} (h : EndsC X TL B G E D) : EndsX X TL B G E D := ⟨h.toEndsOk, takes_wide h.tk⟩
theorem EndsC.mono {X : Cx} {TL : XNames} {B G G' : Hp} {E : DEnds} {D : Ends} (h : EndsC X TL B G E D) (s : Same G G') : EndsC X TL B G' E D := ⟨h.toEndsOk.mono s, h.tk.imp (wx_mono s)⟩
section
variable {X : Cx} {TL : XNames} {st : Stmt} {rest es : List Stmt} {e : Expr} {pos : Pos}
end
section
variable {P : Program} {w : World} {K : PySem.W.Frag} {mg : Str → Option Value} {base : Heap}
end
section
variable {X : Cx} {TL : XNames} {CX : CXT} {k : Nat} {f C : Addr} {fd : FuncData} {ps : List Str} {sp : DSp} {n mn : Str} {o e : Expr} {es : List Expr} {w : DE} {wa : DA} {apos pos : Pos} {m : List Bool}
def wMethN (m : List Bool) (n mn : Str) (sp : DSp) (w : DE) (wa : DA) : DEX := wMethX m n mn sp w fun δ R => wa δ fun os δ1 => ∃ o, os = [o] ∧ R [o, .d .none] δ1
omit [Tb] in
@[simp ↓] theorem wMethN_ap (m : List Bool) (n mn : Str) (sp : DSp) (w : DE) (wa : DA) (δ : DS) (R : Opd → DS → Prop) (Z : PyData → DS → Prop) : wMethN m n mn sp w wa δ R Z = wMethX m n mn sp w (fun δ R => wa δ fun os δ1 => ∃ o, os = [o] ∧ R [o, .d .none] δ1) δ R Z := rfl
end
end DL
set_option Elab.async false
set_option linter.all false
set_option maxRecDepth 100000
set_option maxHeartbeats 4000000
namespace DL
open PySem PySem.Spec PyProof.Rows L2 PySem.W PySem.Calls NdefX
variable [Tb]
section
variable {P : Program} {w : World} {K : PySem.W.Frag} {mg : Str → Option Value} {base : Heap}
end
section
variable {h : Heap} {P : Program} {w : World} {K : PySem.W.Frag} {mg : Str → Option Value} {base : Heap} {TL : XNames}
end
section
variable {X : Cx} {TL : XNames} {p pos : Pos} {e : Expr} {es : List Expr} {n f : Str} {wa : DA}
end
def tryR (cat : Str → Bool) (wh : DTS) (E : DEnds) : DEnds := { nx := E.nx, bk := E.bk, ct := E.ct, rt := fun x δ' => onX x (fun x => E.rt x δ') (fun n fs => if cat n = true then wh E δ' else E.rt (excD n fs) δ') .mk }
def wTryR (cat : Str → Bool) (wb wh : DTS) : DTS := fun E δ => wb (tryR cat wh E) δ
omit [Tb] in
@[simp ↓] theorem wTryR_ap (cat : Str → Bool) (wb wh : DTS) (E : DEnds) (δ : DS) : wTryR cat wb wh E δ = wb (tryR cat wh E) δ := rfl
omit [Tb] in
@[simp ↓] theorem tryR_nx (cat : Str → Bool) (wh : DTS) (E : DEnds) : (tryR cat wh E).nx = E.nx := rfl
omit [Tb] in
@[simp ↓] theorem tryR_bk (cat : Str → Bool) (wh : DTS) (E : DEnds) : (tryR cat wh E).bk = E.bk := rfl
omit [Tb] in
@[simp ↓] theorem tryR_ct (cat : Str → Bool) (wh : DTS) (E : DEnds) : (tryR cat wh E).ct = E.ct := rfl
omit [Tb] in
@[simp ↓] theorem tryR_rt (cat : Str → Bool) (wh : DTS) (E : DEnds) (x : PyData) (δ : DS) : (tryR cat wh E).rt x δ = onX x (fun x => E.rt x δ) (fun n fs => if cat n = true then wh E δ else E.rt (excD n fs) δ) .mk := rfl
section
variable {X : Cx} {TL : XNames} {x : Str} {body suite : List Stmt} {b₀ : Stmt} {np pos pos' : Pos} {cat : Str → Bool} {wb wh : DTS}
end
end DL
set_option Elab.async false
set_option linter.all false
set_option maxRecDepth 100000
set_option maxHeartbeats 4000000
namespace DL
open PySem PySem.Spec PyProof.Rows L2
variable [Tb]
section
variable {X : Cx} {body : List Stmt} {f₀ : Stmt} {fs : List Stmt} {pos : Pos} {tb : WX → TS} {tf tfs : TS} {Wout : WX}
end
theorem ExcR.mono {K : PySem.W.Frag} {TL : XNames} {G G' : Hp} {cls : Value} {d : Option Addr} {x : PyData} (s : Same G G') (h : ExcR K TL G cls d x) : ExcR K TL G' cls d x := ⟨h.1.mono s, h.2⟩
def finE (tf : DTS) (E : DEnds) : DEnds := { nx := fun δ => tf E δ, bk := fun _ => False, ct := fun _ => False, rt := fun x δ => onX x (fun _ => False) (fun n fs => tf { nx := fun δ2 => E.rt (excD n fs) δ2, rt := fun _ _ => False, bk := fun _ => False, ct := fun _ => False } δ) .mk }
def wFinal (wb tf : DTS) : DTS := fun E δ => wb (finE tf E) δ
omit [Tb] in
@[simp ↓] theorem wFinal_ap (wb tf : DTS) (E : DEnds) (δ : DS) : wFinal wb tf E δ = wb (finE tf E) δ := rfl
omit [Tb] in
@[simp ↓] theorem finE_nx (tf : DTS) (E : DEnds) (δ : DS) : (finE tf E).nx δ = tf E δ := rfl
omit [Tb] in
@[simp ↓] theorem finE_rt (tf : DTS) (E : DEnds) (x : PyData) (δ : DS) : (finE tf E).rt x δ = onX x (fun _ => False) (fun n fs => tf { nx := fun δ2 => E.rt (excD n fs) δ2, rt := fun _ _ => False, bk := fun _ => False, ct := fun _ => False } δ) .mk := rfl
section
variable {X : Cx} {TL : XNames} {body : List Stmt} {f₀ : Stmt} {fs : List Stmt} {pos : Pos} {wb tf : DTS}
end
end DL
set_option Elab.async false
set_option linter.all false
set_option maxRecDepth 100000
set_option maxHeartbeats 4000000
namespace DL
open PySem PySem.Spec PyProof.Rows L2
variable [Tb]
structure NumT (K : PySem.W.Frag) (w : World) (D : Addr) (l : List (Str × Int)) : Prop where
  kd : ∃ es n, KDict K w D es n
  yes : ∀ s i, l.lookup s = some i → ∃ t, PySem.W.nsIn K D s = some (some (.int i t))
  no : ∀ s, l.lookup s = none → PySem.W.nsIn K D s = some none
def txtC (x : PyData) (k : Str → Prop) (_u : Stop k) : Prop := ∃ s, x = .str s ∧ k s
omit [Tb] in
@[simp ↓] theorem txtC_str (s : Str) (k : Str → Prop) (u : Stop k) : txtC (.str s) k u = k s := propext ⟨fun ⟨_, e, h⟩ => by cases e; exact h, fun h => ⟨s, rfl, h⟩⟩
def hasT (l : List (Str × Int)) (s : Str) : Bool := (l.lookup s).isSome
def getT (l : List (Str × Int)) (s : Str) (i : Int) : Prop := l.lookup s = some i
def wTabIn (l : List (Str × Int)) (w : DE) : DE := fun δ R => w δ fun o δ1 => use o δ1 fun x => txtC x (fun s => R (.d (.bool (hasT l s))) δ1) .mk
omit [Tb] in
@[simp ↓] theorem wTabIn_ap (l : List (Str × Int)) (w : DE) (δ : DS) (R : Opd → DS → Prop) : wTabIn l w δ R = (w δ fun o δ1 => use o δ1 fun x => txtC x (fun s => R (.d (.bool (hasT l s))) δ1) .mk) := rfl
def wTabIx (l : List (Str × Int)) (w : DE) : DE := fun δ R => w δ fun o δ1 => use o δ1 fun x => txtC x (fun s => ∃ i, getT l s i ∧ R (.d (.int i)) δ1) .mk
omit [Tb] in
@[simp ↓] theorem wTabIx_ap (l : List (Str × Int)) (w : DE) (δ : DS) (R : Opd → DS → Prop) : wTabIx l w δ R = (w δ fun o δ1 => use o δ1 fun x => txtC x (fun s => ∃ i, getT l s i ∧ R (.d (.int i)) δ1) .mk) := rfl
section
variable {X : Cx} {e : Expr} {w : DE} {pos ps pd : Pos} {d : Str} {D : Addr} {l : List (Str × Int)}
end
section
variable {X : Cx} {TL : XNames} {st : Stmt} {rest : List Stmt} {es : List Expr}
end
end DL
set_option Elab.async false
set_option linter.all false
set_option maxRecDepth 100000
set_option maxHeartbeats 4000000
namespace DL
open PySem PySem.Spec PyProof.Rows L2
variable [Tb]
def alsC (c : Option Cell) (k : Addr → Prop) (_u : Stop k) : Prop := ∃ a n fs, c = some (.ob a n fs) ∧ k a
omit [Tb] in
@[simp ↓] theorem alsC_of (a : Addr) (n : Str) (fs : List (Str × PyData)) (k : Addr → Prop) (u : Stop k) : alsC (some (.ob a n fs)) k u = k a := propext ⟨fun ⟨_, _, _, e, h⟩ => by cases e; exact h, fun h => ⟨a, n, fs, rfl, h⟩⟩
def mAls (i : Nat) : DM := fun δ R => alsC δ[i]? (fun a => R (.gx (.nm a "")) δ) .mk
omit [Tb] in
@[simp ↓] theorem mAls_ap (i : Nat) (δ : DS) (R : Cell → DS → Prop) : mAls i δ R = alsC δ[i]? (fun a => R (.gx (.nm a "")) δ) .mk := rfl
section
variable {X : Cx} {TL : XNames} {y : Str} {p : Pos} {i : Nat}
end
end DL
set_option Elab.async false
set_option linter.all false
set_option maxRecDepth 100000
set_option maxHeartbeats 4000000
namespace DL
open PySem PySem.Spec PyProof.Rows L2
variable [Tb]
def FrzAt (G : Hp) (a : Addr) (xs : List V) : Prop := ∃ o : Obj, o.dict = none ∧ G a = some (.frz o (.tup xs))
omit [Tb] in
theorem FrzAt.sq {K : PySem.W.Frag} {G : Hp} {a : Addr} {xs : List V} (h : FrzAt G a xs) : SqT K G a xs := by
  obtain ⟨o, _, e⟩ := h
  exact .inl (.inr ⟨o, e⟩)
section
variable {X : Cx}
def NewF (H : Hp) (Q : VK) (xs : List V) : Prop := ∀ p o, o.dict = none → H p = none → Q (.ref p) (upd H p (.frz o (.tup xs)))
omit [Tb] in
theorem NewF.at {pins : List (Addr × Obj)} {σ : L2.St} {H : Hp} {s : Shared} {Q : VK} {xs : List V} {us : List Value} {k : Nat} (h : NewF H Q xs) (I : Inv X pins σ H s) (z : xs.length ≤ sizeLine) (r : Vals xs us) :
    ∃ (v : V) (H' : Hp), Inv X pins σ H' { s with heap := s.heap.push (tupO us), toks := k } ∧ RelV v (.ref s.heap.objs.size) ∧ Q v H' := by
  have e : (s.heap.push (tupO us)).get? s.heap.objs.size = some (tupO us) := Heap.get?_push_size _ rfl
  exact ⟨.ref s.heap.objs.size, _, I.laid (o := .frz (tupO us) (.tup xs)) (fun _ _ => Heap.get?_push_of_some _) (Nat.le_refl _) ⟨e, z, us, r, _, e, rfl, _, rfl⟩, rfl, h _ _ rfl (I.hok.fresh (Nat.le_refl _))⟩
section
variable {K : PySem.W.Frag} {B G H : Hp} {δ : DS} {σ : L2.St} {Q : VK} {a b : Addr} {xs ys : List V} {lo hi : Option Int}
end
end
section
variable {P : Program} {w : World} {K : PySem.W.Frag} {mg : Str → Option Value} {base : Heap}
end
end DL
set_option Elab.async false
set_option linter.all false
set_option maxRecDepth 100000
set_option maxHeartbeats 2000000
namespace DL
open PySem PySem.Spec PyProof.Rows L2 StX
section
variable {K : PySem.W.Frag} {C : Addr}
end
section
variable {M : Model} {prog : Program} {w : World} {A : Around} {E : Value → Shared → Prop} {s : Shared} {K : PySem.W.Frag} {x C f L : Addr} {ox : Obj} {od : Option Obj} {h₀ : Heap} {m : Str → Option Value} {b tb : Value}
end
section
variable {X : Cx} {CX : CXT} {k : Nat} {f C : Addr} {fd : FuncData} {ps : List Str} {sp : Sp} {E : L2.St → XK} {a b : Expr} {ta tb : TE} {pos : Pos}
end
variable [Tb]
def plnOr (L : List Str) (x : PyData) : Prop := tyName x ≠ "object" ∨ ∃ n fs, n ∈ L ∧ x = obD n fs
def eqArg (L : List Str) (o : Opd) (δ : DS) : Prop := match o with
  | .d x => plnOr L x
  | .s j => match δ[j]? with
    | some (.ob _ n _) => n ∈ L
    | some (.ol _ _) => True
    | some (.d x) => plnOr L x
    | _ => False
def wEqO (m : List Bool) (n : Str) (L : List Str) (sp : DSp) (neg : Bool) (u w : DE) : DE := fun δ R => u δ fun o δ1 => w δ1 fun i δ2 => obIs o δ2 n ∧ eqArg L i δ2 ∧ lkM m [o, i] δ2 fun os' δ3 => (slotsOf os').Nodup ∧ ask sp (os'.map (cellOf δ3)) (fun x cs => ∃ c, x = .bool c ∧ R (.d (.bool (c ^^ neg))) (putBack os' cs δ3)) .mk
omit [Tb] in
@[simp ↓] theorem wEqO_ap (m : List Bool) (n : Str) (L : List Str) (sp : DSp) (neg : Bool) (u w : DE) (δ : DS) (R : Opd → DS → Prop) : wEqO m n L sp neg u w δ R = (u δ fun o δ1 => w δ1 fun i δ2 => obIs o δ2 n ∧ eqArg L i δ2 ∧ lkM m [o, i] δ2 fun os' δ3 => (slotsOf os').Nodup ∧ ask sp (os'.map (cellOf δ3)) (fun x cs => ∃ c, x = .bool c ∧ R (.d (.bool (c ^^ neg))) (putBack os' cs δ3)) .mk) := rfl
section
variable {X : Cx} {k : Nat} {f C : Addr} {fd : FuncData} {ps : List Str} {sp : DSp} {o e : Expr} {w u : DE} {n : Str} {L : List Str} {neg : Bool} {pos : Pos} {m : List Bool}
def isObL (L1 : List Str) (x : PyData) : Bool := match x with
  | .dict ((.int _, .str n) :: _) => L1.contains n
  | _ => false
def wIsC (L1 L0 : List Str) (w : DE) : DE := fun δ R => w δ fun o δ1 => use o δ1 fun x => plnOr (L1 ++ L0) x ∧ R (.d (.bool (isObL L1 x))) δ1
omit [Tb] in
@[simp ↓] theorem wIsC_ap (L1 L0 : List Str) (w : DE) (δ : DS) (R : Opd → DS → Prop) : wIsC L1 L0 w δ R = (w δ fun o δ1 => use o δ1 fun x => plnOr (L1 ++ L0) x ∧ R (.d (.bool (isObL L1 x))) δ1) := rfl
end
end DL
set_option Elab.async false
set_option linter.all false
set_option maxRecDepth 100000
set_option maxHeartbeats 2000000
namespace DL
open PySem PySem.Spec PyProof.Rows L2 StX
variable [Tb]
section
variable {prog : Program} {w : World} {A : Around} {E : Value → Shared → Prop} {s : Shared} {K : PySem.W.Frag} {x C f : Addr} {ox : Obj} {od : Option Obj} {b : Value} {T : String}
end
structure MulC (K : PySem.W.Frag) (C f : Addr) : Prop where
  m : Meth K C "__mul__" f
  r : PySem.W.findIn K (.ref C) (dunderR "mul") = some none
  s : PySem.W.selfFirst K C = true
section
variable {X : Cx} {CX : CXT} {TL : XNames} {k : Nat} {f C : Addr} {fd : FuncData} {ps : List Str} {a b : Expr} {ta tb : TE} {pos : Pos}
def wMulX (m : List Bool) (n : Str) (sp : DSp) (u w : DE) : DEX := fun δ R Z => u δ fun o δ1 => w δ1 fun i δ2 => obIs o δ2 n ∧ eqArg [] i δ2 ∧ lkM m [o, i] δ2 fun os' δ3 => (slotsOf os').Nodup ∧ ask sp (os'.map (cellOf δ3)) (fun x cs => onX x (fun x => R (.d x) (putBack os' cs δ3)) (fun n fs => Z (excD n fs) (putBack os' cs δ3)) .mk) .mk
omit [Tb] in
@[simp ↓] theorem wMulX_ap (m : List Bool) (n : Str) (sp : DSp) (u w : DE) (δ : DS) (R : Opd → DS → Prop) (Z : PyData → DS → Prop) : wMulX m n sp u w δ R Z = (u δ fun o δ1 => w δ1 fun i δ2 => obIs o δ2 n ∧ eqArg [] i δ2 ∧ lkM m [o, i] δ2 fun os' δ3 => (slotsOf os').Nodup ∧ ask sp (os'.map (cellOf δ3)) (fun x cs => onX x (fun x => R (.d x) (putBack os' cs δ3)) (fun n fs => Z (excD n fs) (putBack os' cs δ3)) .mk) .mk) := rfl
end
end DL
set_option Elab.async false
set_option linter.all false
set_option maxRecDepth 100000
set_option maxHeartbeats 2000000
namespace DL
open PySem PySem.Spec PyProof.Rows L2 StX
structure FnS (P : Program) (w : World) (K : PySem.W.Frag) (mg : Str → Option Value) (base : Heap) (CX : CXT) (k : Nat) (f : Addr) (fd : FuncData) (ps : List Str) (sp : Shared → Sp) : Prop where
  len : ∀ s vs H Q E, sp s vs H Q E → vs.length = ps.length
  run : ∀ (A : Around) (outer : List Env) (s : Shared) (H : Hp) (args : Args) (us : List Value) (vs : List V) (Q : VK) (E : XK), RoomG k A → Env0 P w K mg base A outer s H →
    BindsTo s fd args (ps.zip us) → Vals vs us → sp s vs H Q E → codeAny (model P w) A (.call (.ref f) args) (CR CX outer P w H s Q E) s
section
variable {P : Program} {w : World} {K : PySem.W.Frag} {mg : Str → Option Value} {base : Heap} {CX : CXT}
theorem FnS.mono {j k : Nat} {f : Addr} {fd : FuncData} {ps : List Str} {sp : Shared → Sp} (F : FnS P w K mg base CX j f fd ps sp) (h : j ≤ k) : FnS P w K mg base CX k f fd ps sp :=
  ⟨F.len, fun A outer s H args us vs Q E hr => F.run A outer s H args us vs Q E (hr.mono h)⟩
end
section
variable {X : Cx}
end
section
variable {P : Program} {w : World} {K : PySem.W.Frag} {mg : Str → Option Value} {base : Heap}
end
section
variable {X : Cx} {tg e : Expr} {ta : TE} {k : Nat} {f C : Addr} {fd : FuncData} {y fl : Str}
end
variable [Tb]
def iOwn (n fl : Str) (w : DE) : DL := fun δ R => w δ fun o δ1 => use o δ1 fun x => ∃ fs xs, x = obD n fs ∧ fs.lookup fl = some (.tuple xs) ∧ R xs δ1
section
variable {X : Cx} {tg e : Expr} {k : Nat} {f C : Addr} {fd : FuncData} {n y fl : Str} {w : DE}
end
end DL
set_option Elab.async false
set_option linter.all false
set_option maxRecDepth 100000
set_option maxHeartbeats 2000000
namespace DL
open PySem PySem.Spec PyProof.Rows L2 StX
section
variable {prog : Program} {w : World} {A : Around} {E : Value → Shared → Prop} {s : Shared}
end
section
variable {X : Cx} {tg e e2 : Expr} {ta : TA} {p p2 pos pos2 tpos : Pos} {elts : List Expr} {kk : Nat}
end
variable [Tb]
def iEnumZ (w : DA) : DL := fun δ R => w δ fun os δ1 => lkL os δ1 fun ds δ2 => match ds with
  | [a, b] => ∃ xs ys, seqOf a = some xs ∧ seqOf b = some ys ∧ R (numbered 0 (pairsD xs ys)) δ2
  | _ => False
section
variable {X : Cx} {pos pos2 tpos p p2 : Pos} {elts : List Expr} {kk : Nat}
end
end DL
set_option Elab.async false
set_option linter.all false
set_option maxRecDepth 100000
set_option maxHeartbeats 2000000
namespace DL
open PySem PySem.Spec PyProof.Rows L2 StX
section
variable {X : Cx} {pins : List (Addr × Obj)} {σ : L2.St} {A1 : Around} {q t it : Addr}
end
section
variable [Tb] {K : PySem.W.Frag} {B B0 G H : Hp} {δ : DS} {σ : L2.St} {p : Addr} {o : HO}
theorem Rel.drop (R : Rel K B G δ σ H) (hb : B p = some o) (nt : notTE o) (h0 : ∀ a, B0 a = B a ∨ B0 a = none) (hp : B0 p = none) : Rel K B0 G δ σ (ItX.dropH H p) := by
  have R0 := R.less h0
  have gp : G p = none := (R.dj p).elim id fun z => by rw [hb] at z; cases z
  have hH : H p = some o := R.sb _ _ hb
  have off : ∀ {F : Hp}, F p = none → Same F H → Same F (ItX.dropH H p) := fun hF s b x e => (ItX.dropH_ne fun z => by rw [z, hF] at e; cases e).trans (s b x e)
  refine ⟨R0.len, off gp R0.sg, off hp R0.sb, R0.dj, fun i c w e1 e2 => (R0.ok i c w e1 e2).stay (Same.refl _) fun b m => ItX.dropH_ne fun z => ?_, R0.ap, R0.fr, ⟨fun q hq => ?_, R0.tt.n⟩⟩
  · have := (R.fr i c b e1 m).2
    rw [z, hb] at this; cases this
  · obtain ⟨ps, h1, h2, h3⟩ := R0.tt.t q hq
    have ne : ∀ {b : Addr} {x : HO}, H b = some x → (notTE x → False) → ItX.dropH H p b = some x := fun {b x} e n => (ItX.dropH_ne fun z => n (by rw [z, hH] at e; cases e; exact nt)).trans e
    refine ⟨ps, ne h1 fun n => n.1 ps rfl, h2, fun pos cv hc => ?_⟩
    obtain ⟨c, e1, e2⟩ := h3 pos cv hc; exact ⟨c, e1, ne e2 fun n => n.2.1 _ rfl⟩
end
variable [Tb]
def wListI (m : List Bool) (n fl : Str) (sp : DSp) (w : DE) : DE := fun δ R => w δ fun o δ1 => use o δ1 fun x => ∃ fs xs, x = obD n fs ∧ fs.lookup fl = some (.tuple xs) ∧ obIs o δ1 n ∧ lkM m [o] δ1 fun os' δ2 => (slotsOf os').Nodup ∧ ask sp (os'.map (cellOf δ2)) (fun y cs => ∃ k : Nat, y = .int k ∧ k ≤ sizeLine ∧ R (.d (.list xs)) (putBack os' cs δ2)) .mk
section
variable {X : Cx} {k kI kL : Nat} {fi f C : Addr} {fdI fd : FuncData} {y fl n : Str} {ps : List Str} {sp : DSp} {e : Expr} {w : DE} {m : List Bool} {p pos : Pos}
end
end DL
set_option Elab.async false
set_option linter.all false
set_option maxRecDepth 100000
set_option maxHeartbeats 2000000
namespace DL
open PySem PySem.Spec PyProof.Rows L2 StX
variable [Tb]
def wConD (n f : Str) (x : PyData) (w : DE) : DE := fun δ R => w δ fun o δ1 => use o δ1 fun y => ∃ fs, y = obD n fs ∧ fs.lookup f = none ∧ R (.d x) δ1
section
variable {X : Cx} {e : Expr} {f n : Str} {pos px : Pos} {C : Addr} {w : DE} {v : V} {u : Value} {d : PyData}
end
section
variable {K : PySem.W.Frag}
end
end DL
set_option Elab.async false
set_option linter.all false
set_option maxRecDepth 100000
set_option maxHeartbeats 2000000
namespace DL
open PySem PySem.Spec PyProof.Rows L2 StX
section
variable {X : Cx} {CX : CXT} {k : Nat} {f C : Addr} {fd : FuncData} {ps : List Str} {sp : Sp} {E : L2.St → XK} {a b : Expr} {ta tb : TE} {pos : Pos}
end
variable [Tb]
section
variable {X : Cx} {k : Nat} {f C : Addr} {fd : FuncData} {ps : List Str} {sp : DSp} {o e : Expr} {w u : DE} {n : Str} {L : List Str} {pos : Pos} {m : List Bool}
end
end DL
set_option Elab.async false
set_option linter.all false
set_option maxRecDepth 100000
set_option maxHeartbeats 2000000
namespace DL
open PySem PySem.Spec PyProof.Rows L2 StX
def enzC (a b : PyData) (k : List PyData → Prop) (_ : Stop k) : Prop := ∃ xs ys, seqOf a = some xs ∧ seqOf b = some ys ∧ k (numbered 0 (pairsD xs ys))
@[simp ↓] theorem iEnumZ_ap (w : DA) (δ : DS) (R : List PyData → DS → Prop) : iEnumZ w δ R = (w δ fun os δ1 => lkL os δ1 fun ds δ2 => match ds with
  | [a, b] => enzC a b (fun xs => R xs δ2) .mk
  | _ => False) := rfl
@[simp ↓] theorem enzC_tt (xs ys : List PyData) (k : List PyData → Prop) (u : Stop k) : enzC (.tuple xs) (.tuple ys) k u = k (numbered 0 (pairsD xs ys)) := propext ⟨fun ⟨_, _, h1, h2, h⟩ => by cases h1; cases h2; exact h, fun h => ⟨_, _, rfl, rfl, h⟩⟩
def tupC (x : PyData) (n fl : Str) (k : List PyData → Prop) (_ : Stop k) : Prop := ∃ fs xs, x = obD n fs ∧ fs.lookup fl = some (.tuple xs) ∧ k xs
@[simp ↓] theorem iOwn_ap (n fl : Str) (w : DE) (δ : DS) (R : List PyData → DS → Prop) : iOwn n fl w δ R = (w δ fun o δ1 => use o δ1 fun x => tupC x n fl (fun xs => R xs δ1) .mk) := rfl
@[simp ↓] theorem wListI_ap (m : List Bool) (n fl : Str) (sp : DSp) (w : DE) (δ : DS) (R : Opd → DS → Prop) : wListI m n fl sp w δ R = (w δ fun o δ1 => use o δ1 fun x => tupC x n fl (fun xs => obIs o δ1 n ∧ lkM m [o] δ1 fun os' δ2 => (slotsOf os').Nodup ∧ ask sp (os'.map (cellOf δ2)) (fun y cs => ∃ k : Nat, y = .int k ∧ k ≤ sizeLine ∧ R (.d (.list xs)) (putBack os' cs δ2)) .mk) .mk) := rfl
def conC (y : PyData) (n f : Str) : Prop := ∃ fs, y = obD n fs ∧ fs.lookup f = none
@[simp ↓] theorem wConD_ap (n f : Str) (x : PyData) (w : DE) (δ : DS) (R : Opd → DS → Prop) : wConD n f x w δ R = (w δ fun o δ1 => use o δ1 fun y => conC y n f ∧ R (.d x) δ1) := by
  show (w δ fun o δ1 => use o δ1 fun y => ∃ fs, y = obD n fs ∧ fs.lookup f = none ∧ R (.d x) δ1) = _
  congr; funext o δ1; congr; funext y
  exact propext ⟨fun ⟨fs, h1, h2, h⟩ => ⟨⟨fs, h1, h2⟩, h⟩, fun ⟨⟨fs, h1, h2⟩, h⟩ => ⟨fs, h1, h2, h⟩⟩
@[simp ↓] theorem eqArg_d (L : List Str) (v : PyData) (δ : DS) : eqArg L (.d v) δ = plnOr L v := rfl
end DL
set_option Elab.async false
set_option linter.all false
set_option maxRecDepth 100000
set_option maxHeartbeats 2000000
namespace DL
open PySem PySem.Spec PyProof.Rows L2 StX
section
variable {K : PySem.W.Frag}
end
variable [Tb]
def wNevE : DE := fun _ _ => False
omit [Tb] in
@[simp ↓] theorem wNevE_ap (δ : DS) (R : Opd → DS → Prop) : wNevE δ R = False := rfl
end DL
set_option Elab.async false
set_option linter.all false
set_option maxRecDepth 100000
set_option maxHeartbeats 2000000
namespace DL
open PySem PySem.Spec PyProof.Rows L2 StX
section
variable {X : Cx} {CX : CXT} {k : Nat} {f C : Addr} {fd : FuncData} {ps : List Str} {sp : Sp} {E : L2.St → XK} {e e2 : Expr} {ta tb : TE}
end
variable [Tb]
def wInN (m : List Bool) (n : Str) (sp : DSp) (neg : Bool) (u w : DE) : DE := fun δ R => u δ fun i δ1 => w δ1 fun o δ2 => obIs o δ2 n ∧ lkM m [o, i] δ2 fun os' δ3 => (slotsOf os').Nodup ∧ ask sp (os'.map (cellOf δ3)) (fun x cs => ∃ c, x = .bool c ∧ R (.d (.bool (c ^^ neg))) (putBack os' cs δ3)) .mk
omit [Tb] in
@[simp ↓] theorem wInN_ap (m : List Bool) (n : Str) (sp : DSp) (neg : Bool) (u w : DE) (δ : DS) (R : Opd → DS → Prop) : wInN m n sp neg u w δ R = (u δ fun i δ1 => w δ1 fun o δ2 => obIs o δ2 n ∧ lkM m [o, i] δ2 fun os' δ3 => (slotsOf os').Nodup ∧ ask sp (os'.map (cellOf δ3)) (fun x cs => ∃ c, x = .bool c ∧ R (.d (.bool (c ^^ neg))) (putBack os' cs δ3)) .mk) := rfl
section
variable {X : Cx} {k : Nat} {f C : Addr} {fd : FuncData} {ps : List Str} {sp : DSp} {o e : Expr} {w u : DE} {n : Str} {neg : Bool} {pos : Pos} {m : List Bool}
end
end DL
set_option Elab.async false
set_option linter.all false
set_option maxRecDepth 100000
set_option maxHeartbeats 4000000
namespace DL
open PySem PySem.Spec PyProof.Rows L2
section
variable {X : Cx} {CX : CXT} {x : Str} {e : Expr} {es : List Expr} {ta : TA} {p pos : Pos} {C fI : Addr} {k : Nat} {fd : FuncData} {ps : List Str} {sp : Sp}
def tMkV (C : Addr) (sp : Sp) (ta : TA) : TE := fun σ H Q => ta σ H fun vs H1 => vs.length ≤ 1000 ∧ ∀ a, H1 a = none → sp (.ref a :: vs) (upd H1 a (exo a C none)) (fun v H2 => v = .non ∧ Q (.ref a) H2) fun _ _ _ => False
theorem class_value {us : List Value} {vs : List V} {pins : List (Addr × Obj)} {σ : L2.St} {H : Hp} {s : Shared} {Q : VK} (T : OexC X.K C)
    (init : PySem.W.findIn X.K (.ref C) "__init__" = some (some (.ref fI))) (isFn : PySem.W.typeIn X.K (.ref fI) = some (.type "function")) (F1 : FnOk X.prog X.w X.K X.mg X.base CX k fI fd ps sp) (room : Room (k + 1) X.A) (binds : Binds X.K fd ps [])
    (none' : Passes CX X (fun _ _ _ => False)) (I : Inv X pins σ H s) (r : Vals vs us) (few : vs.length ≤ 1000)
    (ask : ∀ a, H a = none → sp (.ref a :: vs) (upd H a (exo a C none)) (fun v H2 => v = .non ∧ Q (.ref a) H2) fun _ _ _ => False) :
    wpAny (model X.prog X.w) X.A (call (.ref C) us) (EP X pins σ Q) X.xe s := by
  obtain ⟨hp, gs, dr, tk, os⟩ := s
  obtain ⟨nm, q0, N, bs, bm, sn, sub, ab, col, dd, k0, k1, k2, k3, k5, at_C, refs⟩ := T.cls
  generalize ea : hp.objs.size + 1 = a
  have above : hp.objs.size ≤ a := ea ▸ Nat.le_succ _
  have free : H a = none := I.hok.fresh above
  have kept : ∀ b o, hp.get? b = some o → ((hp.push (PySem.W.kdv_tup us)).push (PySem.HandSPX.excO C hp.objs.size)).get? b = some o := fun _ _ e => Heap.get?_push_of_some _ (Heap.get?_push_of_some _ e)
  have J := I.laid (t' := tk) (a := a) (o := exo a C none) kept above (exo_ok (by subst ea; heap_get))
  have args : Vals (V.ref a :: vs) (Value.ref a :: us) := .cons rfl r
  have many : (Value.ref a :: us ++ []).length = ps.length := by
    rw [List.append_nil]
    exact args.length.symm.trans (F1.len _ _ _ _ (ask a free))
  have small : us.length ≤ sizeLine := r.length ▸ Nat.le_trans few (by decide)
  have bound := binds _ (Value.ref a :: us) J.kIn many
  rw [List.append_nil] at bound
  have run := F1.run _ X.stack _ _ ⟨Value.ref a :: us, []⟩ _ _ _ (fun _ _ _ => False) (room.make C us []) (J.env0.make C us []) bound args (ask a free)
  subst ea
  refine wpAny_call (PySem.HandSPX.call_own F.excBase_ValueError (PySem.HandSPX.refsVE_contains · bm refs) (I.kIn _ _ at_C) (PySem.W.looks_findIn I.kIn init) (PySem.W.bind_fn I.kIn · isFn) small (codeAny_mono run ?_))
  rintro (e | _ | _ | _ | u) z back <;> first | exact none' pins σ _ _ e _ J back | exact False.elim back | skip
  obtain ⟨v, H2, I2, rv, rfl, q⟩ := J.after back
  exact ⟨rv, .ref _, H2, I2, rfl, q⟩
theorem pe_class (T : OexC X.K C) (init : PySem.W.findIn X.K (.ref C) "__init__" = some (some (.ref fI))) (isFn : PySem.W.typeIn X.K (.ref fI) = some (.type "function"))
    (F : FnOk X.prog X.w X.K X.mg X.base CX k fI fd ps sp) (room : Room (k + 1) X.A) (binds : Binds X.K fd ps []) (none' : Passes CX X (fun _ _ _ => False)) (hg : Gl X x) (hm : X.mg x = some (.ref C)) (ha : PA X (e :: es) ta) (hdb : (x == ("__debug__" : Str)) = false)
    (he : starEach (e :: es) X.env = (false, eval e X.env) :: starEach es X.env) (hpl : (backTo pos (starEach es X.env)).any (·.1) = false) : PE X (.Call (.Name x p) (e :: es) [] pos) (tMkV C sp ta) := ⟨fun pins s σ H Q I h =>
  wpAny_Call_Name_kw (ld_glob I hg hm (PySem.W.callWith_K (h₀ := X.base) I.ok.mod.kin T.kC (wpAny_mono (ha.run pos pins s σ H _ I h) (fun us _ ⟨_, _, I1, r, few, ask⟩ => ⟨I1.kIn, class_value T init isFn F room binds none' I1 r few ask⟩) fun _ _ z => z) he hpl) hdb)⟩
theorem pe_class0 {bmB : List Value} {B newId initId : String} (F : ExcBaseFacts B newId initId bmB) (q : PySem.W.excIn X.K C bmB newId = true) (gC : X.mg x = some (.ref C)) (kC : PySem.W.keepIn X.K (.ref C) = true) (hg : Gl X x) (hdb : (x == ("__debug__" : Str)) = false) :
    PE X (.Call (.Name x p) [] [] pos) (fun _ H Q => ∀ a, H a = none → Q (.ref a) (upd H a (exo a C none))) := ⟨fun pins s σ H Q I h => by
  refine wpAny_Call_Name_kw (ld_glob I hg gC ?_ hdb)
  refine PySem.W.callWith_K0 I.kIn kC ?_
  show wpAny _ _ (call (.ref C) []) _ _ _
  obtain ⟨hp, g, dr, tk, os⟩ := s
  obtain ⟨bm, N, nm, qn, bs, hdct, sn, sub, ab, col, dd, k0, k1, k2, k3, k5, mN, hC, hN, hni, T⟩ := exc_obj I.kIn q
  refine wpAny_call_exc_subT F T hC hN hni (fun h' a hm => ?_) (Nat.zero_le _)
  have hn : H a = none := I.hok.gone hm.new
  obtain ⟨t, ht, _, _⟩ := hm.there
  exact ⟨.ref a, upd H a (exo a C none), I.laidN hm.keeps hm.new hn (exo_ok ht), rfl, h a hn⟩⟩
def tXv (K : PySem.W.Frag) (f : Str) (te : TE) : TE := fun σ H Q => te σ H fun x H1 => ∃ (a C dd : Addr) (fs : List (Str × V)) (v : V), x = .ref a ∧ XfC K C ∧ PySem.W.findIn K (.ref C) f = some none ∧ H1 a = some (exo a C (some dd)) ∧ H1 dd = some (exd dd fs) ∧ fs.lookup f = some v ∧ Q v H1
theorem pe_xv {te : TE} {f : Str} (he : PE X e te) (hb : attributeBase e f X.env (eval e X.env) = eval e X.env) : PE X (.Attribute e f pos) (tXv X.K f te) := ⟨fun pins s σ H Q I h => by
  refine attr_of hb (thn (he.run pins s σ H _ I h) fun u s1 ⟨x, H1, I1, rx, a, C, dd, fs, v, ex, T, hno, ea, ed, l, q⟩ => ?_)
  subst ex
  cases (show u = Value.ref a from rx)
  obtain ⟨t1, hget⟩ := exo_at I1.hok ea
  obtain ⟨mA, hns, hr⟩ := exd_at I1.hok ed
  obtain ⟨od, ho, hl⟩ := lookIn_ns hns
  obtain ⟨u, hu, ru⟩ := RelO.some_of (v := v) (o := mA f) (by rw [← l]; exact hr f)
  have J : PySem.W.InstAt s1.heap a _ C (some od) := ⟨hget, rfl, by unfold PySem.W.notCls; rfl, ho⟩
  exact HandSPX.exc_get I1.kIn J T.ga T.gg T.exC (PySem.W.findObj_own T.hdC hno rfl (by rw [hl, hu])) (handed_of ru) ⟨v, H1, I1.tok _, ru, q⟩⟩
def rIsV (K : PySem.W.Frag) : List V → Hp → VK → Prop := fun xs H Q => ∃ (a C : Addr) (d : Option Addr) (c : V) (cv : Value) (b : Bool), xs = [.ref a, c] ∧ ExcC K C ∧ (∀ u, RelV c u → u = cv) ∧ PySem.W.kitOne K (.ref C) cv = some b ∧ H a = some (exo a C d) ∧ (d = none ∨ ∃ dd fs, d = some dd ∧ H dd = some (exd dd fs)) ∧ Q (.bl b) H
theorem call_isV : CallR X (.builtin "isinstance") (rIsV X.K) := by
  intro pins s σ H xs us Q I r ⟨a, C, d, c, cv, b, ex, T, hcv, e, ea, hdd, q⟩
  subst ex
  obtain ⟨u1, u2, rfl, r1, r2⟩ : ∃ u1 u2, us = [u1, u2] ∧ RelV (V.ref a) u1 ∧ RelV c u2 := by
    cases r with
    | cons r1 r => cases r with
      | cons r2 r => cases r; exact ⟨_, _, rfl, r1, r2⟩
  cases (show u1 = Value.ref a from r1)
  have ec := hcv _ r2
  subst ec
  obtain ⟨t1, hget⟩ := exo_at I.hok ea
  obtain ⟨oe, od, J⟩ : ∃ oe od, PySem.W.InstAt s.heap a oe C od := by
    rcases hdd with rfl | ⟨dd, fs, rfl, hx⟩
    · exact ⟨_, none, hget, rfl, by unfold PySem.W.notCls; rfl, trivial⟩
    · obtain ⟨mA, hns, hr⟩ := exd_at I.hok hx
      obtain ⟨od, ho, hl⟩ := lookIn_ns hns
      exact ⟨_, some od, hget, rfl, by unfold PySem.W.notCls; rfl, ho⟩
  exact PySem.W.kia_one (ClsBy.kit ⟨T.hg, T.hk, T.hs, T.hd, T.ha, T.hn, T.ht, T.hm⟩) I.kIn J e (fun z => nomatch z) fun tk => ⟨.bl b, H, I.kept (t' := tk) fun _ _ z => z, rfl, q⟩
end
end DL
set_option Elab.async false
set_option linter.all false
set_option maxRecDepth 100000
set_option maxHeartbeats 4000000
namespace DL
open PySem PySem.Spec PyProof.Rows L2
variable [Tb]
abbrev DV := DS → (PyData → DS → Prop) → Prop
def upV (K : PySem.W.Frag) (w : DV) : TE := fun σ H Q => ∃ B G δ R, Rel K B G δ σ H ∧ w δ R ∧ ∀ a H' G' x δ', R x δ' → Same G G' → Rel K B G' δ' σ H' → ErrG K G' a x → Q (.ref a) H'
abbrev JV (X : Cx) (e : Expr) (w : DV) : Prop := PE X e (upV X.K w)
def TlN (K : PySem.W.Frag) (TL : XNames) (ns : List Str) : Prop := ∀ n ∈ ns, ∃ C, (n, C) ∈ TL ∧ PySem.W.nsIn K mainGlobals n = some (some (.ref C))
def TLG (K : PySem.W.Frag) (TL : XNames) : Prop := ∀ n C, (n, C) ∈ TL → PySem.W.nsIn K mainGlobals n = some (some (.ref C))
omit [Tb] in
theorem TLG.names {K : PySem.W.Frag} {TL : XNames} {ns : List Str} (h : TLG K TL) (m : ∀ n ∈ ns, ∃ C, (n, C) ∈ TL) : TlN K TL ns := fun n hn => by
  obtain ⟨C, e⟩ := m n hn
  exact ⟨C, e, h n C e⟩
def wV1 (n f : Str) (w : DA) : DV := fun δ R => w δ fun os δ1 => lkL os δ1 fun xs δ2 => match xs with
  | [x] => R (excD n [(f, x)]) δ2
  | _ => False
def wV2 (n f g : Str) (w : DA) : DV := fun δ R => w δ fun os δ1 => lkL os δ1 fun xs δ2 => match xs with
  | [x, y] => R (excD n [(g, y), (f, x)]) δ2
  | _ => False
def wV0 (n : Str) : DV := fun δ R => R (excD n []) δ
section
variable {X : Cx} {TL : XNames} {ns : List Str} {n f g x : Str} {e : Expr} {es : List Expr} {wa : DA} {p pos : Pos} {C : Addr}
theorem rel_err {K : PySem.W.Frag} {B G H : Hp} {δ : DS} {σ : L2.St} {a dx : Addr} {ws : List (Str × V)} (rel : Rel K B G δ σ H) (na : H a = none) (n1 : H dx = none) (n2 : dx ≠ a) :
    ∃ G', Same G G' ∧ Rel K B G' δ σ (upd (upd H dx (exd dx ws)) a (exo a C (some dx))) ∧ G' a = some (exo a C (some dx)) ∧ G' dx = some (exd dx ws) := by
  obtain ⟨r1, s1⟩ := rel.laid (o := exd dx ws) n1
  obtain ⟨r2, s2⟩ := r1.laid (p := a) (o := exo a C (some dx)) (by rw [upd_ne (Ne.symm n2)]; exact na)
  exact ⟨_, s1.trans s2, r2, upd_same, by rw [upd_ne n2, upd_same]⟩
theorem upd3 {H : Hp} {a dx : Addr} {u o e : HO} (n2 : dx ≠ a) : upd (upd (upd H a u) dx e) a o = upd (upd H dx e) a o := by
  funext b
  by_cases h : b = a
  · rw [h, upd_same, upd_same]
  · rw [upd_ne h, upd_ne h]
    by_cases h1 : b = dx
    · rw [h1, upd_same, upd_same]
    · rw [upd_ne h1, upd_ne h, upd_ne h1]
theorem jv_1 (h : XC1 X.prog X.w X.K X.mg X.base TL n f) (tg : TLG X.K TL) (hr : RoomG 2 X.A) (hg : Gl X n) (ha : JA X (e :: es) wa)
    (hdb : (n == ("__debug__" : Str)) = false := by decide) (he : starEach (e :: es) X.env = (false, eval e X.env) :: starEach es X.env := by rfl) (hpl : (backTo pos (starEach es X.env)).any (·.1) = false := by rfl) :
    JV X (.Call (.Name n p) (e :: es) [] pos) (wV1 n f wa) := by
  obtain ⟨C, fI, fd, ps, h1, h2, h3, h4, h5, h6, h7⟩ := h
  have h9 := tg n C h1
  refine pe_le (pe_class h2.T h3 h4 h5 hr.rm h6 pass0 hg h7 ha hdb he hpl) fun pins s σ H Q I ⟨B, G, δ, R, rel, hw, k⟩ => ⟨B, G, δ, _, rel, hw, fun vs H1 G1 os δ1 r1 s1 rel1 ok1 => ?_⟩
  obtain ⟨G2, δ2, xs, q, s2, rel2, t⟩ := lkL_ok rel1 ok1 r1
  match xs, t, q with
  | [y], t, q =>
    obtain ⟨v, rfl, dv⟩ := t.one
    refine ⟨by simp, fun a na => ⟨a, v, rfl, upd_same, fun dx n1 n2 => ⟨rfl, ?_⟩⟩⟩
    have n1' : H1 dx = none := by rw [upd_ne n2] at n1; exact n1
    rw [upd3 n2]
    obtain ⟨G3, s3, rel3, e1, e2⟩ := rel_err (C := C) (ws := [(f, v)]) rel2 na n1' n2
    exact k a _ G3 _ δ2 q (s1.trans (s2.trans s3)) rel3 ⟨n, C, [(f, y)], some dx, rfl, h9, e1, .inl ⟨dx, [(f, v)], rfl, e2, rfl, .cons (dv.mono s3) .nil⟩⟩
end
end DL
set_option Elab.async false
set_option linter.all false
set_option maxRecDepth 100000
set_option maxHeartbeats 4000000
namespace DL
open PySem PySem.Spec PySem.HandSPX PySem.Builtin PySem.Builtin.ObjectAttr
section
variable {prog : Program} {w : World} {M : Model} {A : Around} {E : Value → Shared → Prop} {R : Result → Shared → Prop} {h : Heap} {g : Array GenState} {d : Drawn} {t : Nat} {os : OsState}
variable {nm q : Str} {C N : Addr} {bs bm bmB : List Value} {hdct : Bool} {sn : List Str} {sub : List Value} {ab : Bool} {col : Option Bool} {dd : Option Addr} {k0 k1 k2 k3 k5 : Option Value} {B newId initId : String} {kw : List (Str × Value)}
theorem kw_check {Q : Unit → Shared → Prop} (hC : h.get? C = some (excClassObj nm q C N bs bm hdct sn sub ab col dd k0 k1 k2 k3 k5 newId)) (hq : Q () ⟨h, g, d, t, os⟩) : wpAny M A (checkBuiltinCall "type.__call__" ⟨[.ref C], kw⟩) Q E ⟨h, g, d, t, os⟩ := by
  have f3 := tc_sub
  have isT : (⟨h, g, d, t, os⟩ : Shared).TypeIs (.ref C) "type" := ⟨_, hC, rfl⟩
  simp only [checkBuiltinCall, tc_kind, tc_split]; repeat (any_goals (first | assumption | with_reducible refine wpAny_loadPart_at hC ?_ | with_reducible refine wpAny_onRaise ?_ | with_reducible refine wpAny_map ?_ | wp_step))
theorem kw_new (F : ExcBaseFacts B newId initId bmB) (hT : ∀ X : String, bm.contains (.type X) = bmB.contains (.type X)) {Q : Unit → Shared → Prop}
    (hC : h.get? C = some (excClassObj nm q C N bs bm hdct sn sub ab col dd k0 k1 k2 k3 k5 newId)) (hq : Q () ⟨h, g, d, t, os⟩) : wpAny M A (checkBuiltinCall newId ⟨[.ref C], kw⟩) Q E ⟨h, g, d, t, os⟩ := by
  have has : (Value.ref C :: bm).contains (.type B) = true := by rw [List.contains_cons, hT, F.hasB, Bool.or_true]
  have star := F.noStar
  simp only [checkBuiltinCall, F.newKind, F.newSplit, F.newRow]; repeat (first | refine wpAny_loadPart_at hC ?_ | (refine wpAny_isSubtype_exc hC ?_; rw [has]) | refine wpAny_staticBase_exc hC ?_ | refine wpAny_madeBy_exc hC ?_ | simp only [bne_self_eq_false, Bool.false_eq_true, if_false] | wp_step)
  exact hq
theorem kw_born (F : ExcBaseFacts B newId initId bmB) (hT : ∀ X : String, bm.contains (.type X) = bmB.contains (.type X)) (hC : h.get? C = some (excClassObj nm q C N bs bm hdct sn sub ab col dd k0 k1 k2 k3 k5 newId))
    (hq : R (.ok (.ret (.ref (h.objs.size + 1)))) ⟨(h.push (PySem.W.kdv_tup [])).push (excO C h.objs.size), g, d, t, os⟩) : codeAny (model prog w) A (.builtin newId ⟨[.ref C], kw⟩) R ⟨h, g, d, t, os⟩ := by
  have tail := F.ends
  have sB : (Value.ref C :: bm).contains (.type B) = true := by rw [List.contains_cons, hT, F.hasB, Bool.or_true]
  have sA : (Value.ref C :: bm).contains (.type "AttributeError") = false := by rw [List.contains_cons, hT, F.noAttr]; rfl
  have sN : (Value.ref C :: bm).contains (.type "NameError") = false := by rw [List.contains_cons, hT, F.noName]; rfl
  refine codeAny_builtinAt F.entry ?_; delta Builtin.«BaseException.__new__»
  refine wpAt_bind ?_
  show wpAt _ _ _ (stack >>= _) _ _ _
  refine wpAt_bind (wpAt_stack fun p below => wpAt_of_wpAny ?_)
  wp_walk
  refine wpAt_of_wpAny ?_
  rw [F.owner]
  repeat (first | with_reducible refine wpAny_madeHere_exc F.canon hC ?_ | with_reducible refine wpAny_loadPart_at hC ?_ | (with_reducible refine wpAny_isSubtype_exc hC ?_; first | rw [sB] | rw [sA] | rw [sN]) | wp_step)
  show R _ _
  rw [Heap.size_push]
  exact hq
theorem kw_type {fI : Addr} {Q : PySem.Fin → Shared → Prop} (F : ExcBaseFacts B newId initId bmB) (hT : ∀ X : String, bm.contains (.type X) = bmB.contains (.type X)) (hC : h.get? C = some (excClassObj nm q C N bs bm hdct sn sub ab col dd k0 k1 k2 k3 k5 newId))
    (hi : PySem.W.Looks (model prog w) h (typeLookup (.ref C) "__init__") (some (.ref fI))) (hb : ∀ self, PySem.W.Looks (model prog w) h (bindSpecial (.ref fI) self) (.ref fI, [self]))
    (hq : codeAny (model prog w) A (.call (.ref fI) ⟨[.ref (h.objs.size + 1)], kw⟩) (fun r s' => match r with | .ok (.ret v) => v = .none ∧ Q (.done (.ret (.ref (h.objs.size + 1)))) s' | .ok _ => False | .error e => E e s')
      ⟨(h.push (PySem.W.kdv_tup [])).push (excO C h.objs.size), g, d, t, os⟩) : wpAny (model prog w) A (Builtin.«type.__call__» ⟨[.ref C], kw⟩) Q E ⟨h, g, d, t, os⟩ := by
  repeat (first | with_reducible refine wpAny_loadPart_at hC ?_ | with_reducible refine wpAny_madeBy_exc hC ?_ | wp_step)
  refine codeAny_call_builtin_code (Code.quiet_builtin _ F.quiet) (kw_new F hT hC (kw_born F hT hC ?_))
  show wpAny _ _ _ _ _ _
  have kept : ∀ b o, h.get? b = some o → ((h.push (PySem.W.kdv_tup [])).push (excO C h.objs.size)).get? b = some o := fun _ _ e => Heap.get?_push_of_some _ (Heap.get?_push_of_some _ e)
  have atC := kept _ _ hC
  have born : ((h.push (PySem.W.kdv_tup [])).push (excO C h.objs.size)).get? (h.objs.size + 1) = some (excO C h.objs.size) := by heap_get
  have self : (Value.ref C :: bm).contains (.ref C) = true := by simp
  have look := hi.keeps kept
  have bound := (hb (.ref (h.objs.size + 1))).keeps kept
  delta isInstance
  repeat (first | with_reducible refine wpAny_loadPart_at born ?_ | (with_reducible refine wpAny_isSubtype_exc atC ?_; rw [self]) | wp_step)
  show wpAny _ _ (typeLookup (.ref C) _) _ _ _
  refine look.at (wpAny_holding (wpAny_bind (bound.at (wpAny_bind (wpAny_call (codeAny_mono hq fun r s' z => ?_))))))
  rcases r with e | (v | _ | _ | _) <;> first | exact z | exact z.elim | skip
  obtain ⟨rfl, z⟩ := z
  first
    | exact wpAny_pure (wpAny_pure z)
    | (wp_walk; exact z)
theorem kw_call {fI : Addr} (F : ExcBaseFacts B newId initId bmB) (hT : ∀ X : String, bm.contains (.type X) = bmB.contains (.type X)) (hC : h.get? C = some (excClassObj nm q C N bs bm hdct sn sub ab col dd k0 k1 k2 k3 k5 newId))
    (hi : PySem.W.Looks (model prog w) h (typeLookup (.ref C) "__init__") (some (.ref fI))) (hb : ∀ self, PySem.W.Looks (model prog w) h (bindSpecial (.ref fI) self) (.ref fI, [self]))
    (hq : codeAny (model prog w) (A.under (.builtin "type.__call__" ⟨[.ref C], kw⟩)) (.call (.ref fI) ⟨[.ref (h.objs.size + 1)], kw⟩) (PySem.W.InitBack (h.objs.size + 1) R) ⟨(h.push (PySem.W.kdv_tup [])).push (excO C h.objs.size), g, d, t, os⟩) :
    codeAny (model prog w) A (.call (.ref C) ⟨[], kw⟩) R ⟨h, g, d, t, os⟩ := by
  have f1 := tc_lookup
  have f2 := tc_bind (.ref C)
  have isT : (⟨h, g, d, t, os⟩ : Shared).TypeIs (.ref C) "type" := ⟨_, hC, rfl⟩
  refine codeAny_of_tree ?_
  show wpAny _ _ (callAny (.ref C) _) _ _ _
  repeat (any_goals (first | assumption | with_reducible refine wpAny_loadPart_at hC ?_ | wp_step))
  refine ⟨rfl, codeAny_call_builtin_at (Code.quiet_builtin _ (by decide +kernel)) entry_typeCall (kw_check hC (kw_type F hT hC hi hb (codeAny_mono hq fun r s' z => ?_)))⟩
  rcases r with e | (v | _ | _ | _) <;> exact z
end
end DL
set_option Elab.async false
set_option linter.all false
set_option maxRecDepth 100000
set_option maxHeartbeats 4000000
namespace DL
open PySem PySem.Spec PyProof.Rows L2 NdefX
variable [Tb]
section
variable {X : Cx} {CX : CXT} {x : Str} {kws : List Keyword} {tk : TA} {p pos : Pos} {C fI : Addr} {k : Nat} {fd : FuncData} {ps ks : List Str} {ix : List Nat} {sp : Sp}
omit [Tb] in
theorem class_valueK {ws : List Value} {zs : List V} {pins : List (Addr × Obj)} {σ : L2.St} {H : Hp} {s : Shared} {Q : VK} (T : OexC X.K C)
    (init : PySem.W.findIn X.K (.ref C) "__init__" = some (some (.ref fI))) (isFn : PySem.W.typeIn X.K (.ref fI) = some (.type "function")) (F1 : FnOk X.prog X.w X.K X.mg X.base CX k fI fd ps sp) (room : Room (k + 1) X.A) (hb : KM0 X.K fd ps ks ix)
    (none' : Passes CX X (fun _ _ _ => False)) (I : Inv X pins σ H s) (r : Vals zs ws) (hl : zs.length = ks.length) (hi : ∀ i ∈ ix, i < ks.length)
    (ask : ∀ a, H a = none → sp (.ref a :: permO V.non ix zs) (upd H a (exo a C none)) (fun v H2 => v = .non ∧ Q (.ref a) H2) fun _ _ _ => False) :
    wpAny (model X.prog X.w) X.A (call (.ref C) [] (ks.zip ws)) (EP X pins σ Q) X.xe s := by
  obtain ⟨hp, gs, dr, tk, os⟩ := s
  obtain ⟨nm, q0, N, bs, bm, sn, sub, ab, col, dd, k0, k1, k2, k3, k5, at_C, refs⟩ := T.cls
  generalize ea : hp.objs.size + 1 = a
  have above : hp.objs.size ≤ a := ea ▸ Nat.le_succ _
  have free : H a = none := I.hok.fresh above
  have kept : ∀ b o, hp.get? b = some o → ((hp.push (PySem.W.kdv_tup [])).push (PySem.HandSPX.excO C hp.objs.size)).get? b = some o := fun _ _ e => Heap.get?_push_of_some _ (Heap.get?_push_of_some _ e)
  have J := I.laid (t' := tk) (a := a) (o := exo a C none) kept above (exo_ok (by subst ea; heap_get))
  have args : Vals (V.ref a :: permO V.non ix zs) (Value.ref a :: permO Value.none ix ws) := .cons rfl (perm_vals r ix fun i h => by rw [hl]; exact hi i h)
  have bound := hb _ (Value.ref a) ws J.kIn (by rw [← r.length]; exact hl)
  have run := F1.run _ X.stack _ _ ⟨[Value.ref a], ks.zip ws⟩ _ _ _ (fun _ _ _ => False) (room.make C [] (ks.zip ws)) (J.env0.make C [] (ks.zip ws)) bound args (ask a free)
  subst ea
  refine wpAny_call (kw_call F.excBase_ValueError (PySem.HandSPX.refsVE_contains · bm refs) (I.kIn _ _ at_C) (PySem.W.looks_findIn I.kIn init) (PySem.W.bind_fn I.kIn · isFn) (codeAny_mono run ?_))
  rintro (e | _ | _ | _ | u) z back <;> first | exact none' pins σ _ _ e _ J back | exact False.elim back | skip
  obtain ⟨v, H2, I2, rv, rfl, q⟩ := J.after back
  exact ⟨rv, .ref _, H2, I2, rfl, q⟩
def tMkVK (n : Nat) (ix : List Nat) (C : Addr) (sp : Sp) (tk : TA) : TE := fun σ H Q => tk σ H fun zs H1 => (zs.length = n ∧ ∀ i ∈ ix, i < n) ∧ ∀ a, H1 a = none → sp (.ref a :: permO V.non ix zs) (upd H1 a (exo a C none)) (fun v H2 => v = .non ∧ Q (.ref a) H2) fun _ _ _ => False
omit [Tb] in
theorem pe_classK (T : OexC X.K C) (init : PySem.W.findIn X.K (.ref C) "__init__" = some (some (.ref fI))) (isFn : PySem.W.typeIn X.K (.ref fI) = some (.type "function"))
    (F : FnOk X.prog X.w X.K X.mg X.base CX k fI fd ps sp) (room : Room (k + 1) X.A) (hb : KM0 X.K fd ps ks ix) (none' : Passes CX X (fun _ _ _ => False)) (hg : Gl X x) (hm : X.mg x = some (.ref C)) (hkw : PK X kws tk) (hdb : (x == ("__debug__" : Str)) = false)
    (hall : (backToKw pos (keywordEach kws X.env)).all (·.1.isSome) = true) (hks : (backToKw pos (keywordEach kws X.env)).filterMap (·.1) = ks)
    (hpl : ((backTo pos (starEach [] X.env)).any (·.1) || (backToKw pos (keywordEach kws X.env)).any (·.1.isNone)) = false) : PE X (.Call (.Name x p) [] kws pos) (tMkVK ks.length ix C sp tk) := by
  refine ⟨fun pins s σ H Q I h => wpAny_Call_Name_kw (ld_glob I hg hm ?_ hdb)⟩
  refine PySem.W.callWith_KW0 (h₀ := X.base) I.ok.mod.kin T.kC hall (thn (hkw.run pos pins s σ H _ I h) fun ws s1 ⟨zs, H1, I1, r, ⟨hlen, hi⟩, q0⟩ => ⟨I1.kIn, ?_⟩) hpl
  rw [hks]
  exact class_valueK T init isFn F room hb none' I1 r hlen hi q0
end
def XC1K (P : Program) (w : World) (K : PySem.W.Frag) (mg : Str → Option Value) (base : Heap) (TL : XNames) (n f : Str) : Prop :=
  ∃ (C fI : Addr) (fd : FuncData) (ps : List Str), (n, C) ∈ TL ∧ CF K n C ∧ PySem.W.findIn K (.ref C) "__init__" = some (some (.ref fI)) ∧ PySem.W.typeIn K (.ref fI) = some (.type "function") ∧ FnOk P w K mg base CX0 1 fI fd ps (spI1 C f) ∧ KM0 K fd ps [f] [0] ∧ mg n = some (.ref C)
def XC2K (P : Program) (w : World) (K : PySem.W.Frag) (mg : Str → Option Value) (base : Heap) (TL : XNames) (n f g : Str) : Prop :=
  ∃ (C fI : Addr) (fd : FuncData) (ps : List Str), (n, C) ∈ TL ∧ CF K n C ∧ PySem.W.findIn K (.ref C) "__init__" = some (some (.ref fI)) ∧ PySem.W.typeIn K (.ref fI) = some (.type "function") ∧ FnOk P w K mg base CX0 1 fI fd ps (spI2 C f g) ∧ KM0 K fd ps [g, f] [1, 0] ∧ mg n = some (.ref C)
section
open PySem.W
variable {P : Program} {w : World} {K : Frag} {mg : Str → Option Value} {base h : Heap} {TL : XNames}
theorem xc1k_mk {n x qual : Str} {C fI cda cc : Addr} {file : Str} {tf : Tok} {params : Arguments} {scope : Scope} {ar : Arg} {p0 p1 p2 p3 p4 p5 q0 q1 q2 q3 : Pos} {oc ct ccl cl doc pm : Value} {an od cdd cld : Option Addr} {osl ccs csl : Array (Option Value)} {cvs : Array Value} {cdD : ClassData}
    (KX : K.In h) (G : h.Ns mainGlobals mg) (hT : (n, C) ∈ TL) (F : CF K n C) (a : nsIn K mainGlobals n = some (some (.ref C))) (c : clsIn K C = some cdD) (sub : mroIn K C (.ref C) = some true) (opq : nsIn K cStatics "thirdparty.any" = some none) (ini : ks_superIn K C C "__init__" = some (some (.builtin "ValueError.__init__"))) (ve : subIn K (.ref C) (.type "ValueError") = some true)
    (iC : findIn K (.ref C) "__init__" = some (some (.ref fI))) (tI : typeIn K (.ref fI) = some (.type "function"))
    (lk : K.lookup fI = some ⟨oc, od, .func (fnX "__init__" qual params [.Expr (.Call (.Attribute (.Call (.Name "super" p0) [] [] p1) "__init__" p2) [.Name x p3] [] p4) p5, .Assign [.Attribute (.Name "self" q0) x q1] (.Name x q2) q3] scope [("__class__", cc)] .none .none doc pm an (.ref cda) ct), osl⟩)
    (hcd : codeIn K (.ref cda) qual = true) (hcode : K.lookup cda = some ⟨ccl, cdd, .fields cvs, ccs⟩) (hvs : cvs[2]? = some (.str file tf)) (hfile : ((P.main.file : Str) == file) = true)
    (hcell : K.lookup cc = some ⟨cl, cld, .cell (some (.ref C)), csl⟩) (hsm : nsIn K mainGlobals "super" = some none)
    (S : nscB ["self", x, "__class__"] ["self", x] ["__class__"] scope = true) (hp : (params.posonlyargs ++ params.args).head? = some ar) (har : ([("self" : Str), x] : List Str).head? = some ar.arg) (hnd : ([("self" : Str), x] : List Str).Nodup)
    (hks : scope.names.lookup ("super" : Str) = some .globalImplicit) (htop : (P.main.scope.names.lookup ("super" : Str)).isSome = false)
    (hst : ∀ L, starEach [.Name x p3] (ksEnv qual scope L fI (.ref cda) cc) = (false, eval (.Name x p3) (ksEnv qual scope L fI (.ref cda) cc)) :: starEach [] (ksEnv qual scope L fI (.ref cda) cc))
    (hev : ∀ L, ∃ pl, eval (.Call (.Attribute (.Call (.Name "super" p0) [] [] p1) "__init__" p2) [.Name x p3] [] p4) (ksEnv qual scope L fI (.ref cda) cc) = (do
      let ov ← attributeBase (.Call (.Name "super" p0) [] [] p1) "__init__" (ksEnv qual scope L fI (.ref cda) cc) (eval (.Call (.Name "super" p0) [] [] p1) (ksEnv qual scope L fI (.ref cda) cc))
      standAt p2.atName
      let (f, first) ← holding [ov] (getMethod ov "__init__" pl)
      callWith p4 f first (backTo p4 (starEach [.Name x p3] (ksEnv qual scope L fI (.ref cda) cc))) []))
    (hsw : ∀ L, swapsWith (.Call (.Attribute (.Call (.Name "super" p0) [] [] p1) "__init__" p2) [.Name x p3] [] p4) none p5.line (ksEnv qual scope L fI (.ref cda) cc) = pure false)
    (hin : ∀ L, interactive (ksEnv qual scope L fI (.ref cda) cc) = false)
    (hsw2 : ∀ env : Env, swapsWith (.Name x q2) (some (.Attribute (.Name "self" q0) x q1)) q3.line env = pure false)
    (hf : findIn K (.ref C) x = some none) (hdx : (x == ("__debug__" : Str)) = false) (hdc : (x == ("__classdict__" : Str)) = false)
    (hb : ∀ u0 u1 : Value, bindArgs (fnX "__init__" qual params [.Expr (.Call (.Attribute (.Call (.Name "super" p0) [] [] p1) "__init__" p2) [.Name x p3] [] p4) p5, .Assign [.Attribute (.Name "self" q0) x q1] (.Name x q2) q3] scope [("__class__", cc)] .none .none doc pm an (.ref cda) ct) ⟨[u0], [(x, u1)]⟩ = pure ([("self", u0), (x, u1)] : List (Str × Value))) :
    XC1K P w K mg base TL n x :=
  ⟨C, fI, _, ["self", x], hT, F, iC, tI, init_ok1 lk ⟨⟨F.T, ⟨_, c⟩, sub, opq, ini, ve⟩, hcd, ⟨_, _, _, _, _, _, hcode, hvs, hfile⟩, ⟨_, _, _, hcell⟩, mg_none_of KX G hsm, nscope_by S, ⟨ar, hp, har⟩, hnd, hks, htop, hst, fun L => rfl, hev, hsw, hin⟩ hf hdx hdc hsw2,
    fun s u0 ws _ hl => by
      match ws, hl with
      | [u1], _ => exact .of_eq (hb u0 u1),
    mg_of KX G a⟩
theorem xc2k_mk {n x y qual : Str} {C fI cda cc : Addr} {file : Str} {tf : Tok} {params : Arguments} {scope : Scope} {ar : Arg} {p0 p1 p2 p3 p3' p4 p5 q0 q1 q2 q3 r0 r1 r2 r3 : Pos} {oc ct ccl cl doc pm : Value} {an od cdd cld : Option Addr} {osl ccs csl : Array (Option Value)} {cvs : Array Value} {cdD : ClassData}
    (KX : K.In h) (G : h.Ns mainGlobals mg) (hT : (n, C) ∈ TL) (F : CF K n C) (a : nsIn K mainGlobals n = some (some (.ref C))) (c : clsIn K C = some cdD) (sub : mroIn K C (.ref C) = some true) (opq : nsIn K cStatics "thirdparty.any" = some none) (ini : ks_superIn K C C "__init__" = some (some (.builtin "ValueError.__init__"))) (ve : subIn K (.ref C) (.type "ValueError") = some true)
    (iC : findIn K (.ref C) "__init__" = some (some (.ref fI))) (tI : typeIn K (.ref fI) = some (.type "function"))
    (lk : K.lookup fI = some ⟨oc, od, .func (fnX "__init__" qual params [.Expr (.Call (.Attribute (.Call (.Name "super" p0) [] [] p1) "__init__" p2) [.Name x p3, .Name y p3'] [] p4) p5, .Assign [.Attribute (.Name "self" q0) x q1] (.Name x q2) q3, .Assign [.Attribute (.Name "self" r0) y r1] (.Name y r2) r3] scope [("__class__", cc)] .none .none doc pm an (.ref cda) ct), osl⟩)
    (hcd : codeIn K (.ref cda) qual = true) (hcode : K.lookup cda = some ⟨ccl, cdd, .fields cvs, ccs⟩) (hvs : cvs[2]? = some (.str file tf)) (hfile : ((P.main.file : Str) == file) = true)
    (hcell : K.lookup cc = some ⟨cl, cld, .cell (some (.ref C)), csl⟩) (hsm : nsIn K mainGlobals "super" = some none)
    (S : nscB ["self", x, y, "__class__"] ["self", x, y] ["__class__"] scope = true) (hp : (params.posonlyargs ++ params.args).head? = some ar) (har : ([("self" : Str), x, y] : List Str).head? = some ar.arg) (hnd : ([("self" : Str), x, y] : List Str).Nodup)
    (hks : scope.names.lookup ("super" : Str) = some .globalImplicit) (htop : (P.main.scope.names.lookup ("super" : Str)).isSome = false)
    (hst : ∀ L, starEach [.Name x p3, .Name y p3'] (ksEnv qual scope L fI (.ref cda) cc) = (false, eval (.Name x p3) (ksEnv qual scope L fI (.ref cda) cc)) :: starEach [.Name y p3'] (ksEnv qual scope L fI (.ref cda) cc))
    (hev : ∀ L, ∃ pl, eval (.Call (.Attribute (.Call (.Name "super" p0) [] [] p1) "__init__" p2) [.Name x p3, .Name y p3'] [] p4) (ksEnv qual scope L fI (.ref cda) cc) = (do
      let ov ← attributeBase (.Call (.Name "super" p0) [] [] p1) "__init__" (ksEnv qual scope L fI (.ref cda) cc) (eval (.Call (.Name "super" p0) [] [] p1) (ksEnv qual scope L fI (.ref cda) cc))
      standAt p2.atName
      let (f, first) ← holding [ov] (getMethod ov "__init__" pl)
      callWith p4 f first (backTo p4 (starEach [.Name x p3, .Name y p3'] (ksEnv qual scope L fI (.ref cda) cc))) []))
    (hsw : ∀ L, swapsWith (.Call (.Attribute (.Call (.Name "super" p0) [] [] p1) "__init__" p2) [.Name x p3, .Name y p3'] [] p4) none p5.line (ksEnv qual scope L fI (.ref cda) cc) = pure false)
    (hin : ∀ L, interactive (ksEnv qual scope L fI (.ref cda) cc) = false)
    (hsw2 : ∀ env : Env, swapsWith (.Name x q2) (some (.Attribute (.Name "self" q0) x q1)) q3.line env = pure false) (hsw3 : ∀ env : Env, swapsWith (.Name y r2) (some (.Attribute (.Name "self" r0) y r1)) r3.line env = pure false)
    (hf : findIn K (.ref C) x = some none) (hg : findIn K (.ref C) y = some none) (hdx : (x == ("__debug__" : Str)) = false) (hdc : (x == ("__classdict__" : Str)) = false) (hdx' : (y == ("__debug__" : Str)) = false) (hdc' : (y == ("__classdict__" : Str)) = false)
    (hb : ∀ u0 u1 u2 : Value, bindArgs (fnX "__init__" qual params [.Expr (.Call (.Attribute (.Call (.Name "super" p0) [] [] p1) "__init__" p2) [.Name x p3, .Name y p3'] [] p4) p5, .Assign [.Attribute (.Name "self" q0) x q1] (.Name x q2) q3, .Assign [.Attribute (.Name "self" r0) y r1] (.Name y r2) r3] scope [("__class__", cc)] .none .none doc pm an (.ref cda) ct) ⟨[u0], [(y, u2), (x, u1)]⟩ = pure ([("self", u0), (x, u1), (y, u2)] : List (Str × Value))) :
    XC2K P w K mg base TL n x y :=
  ⟨C, fI, _, ["self", x, y], hT, F, iC, tI, init_ok2 lk ⟨⟨F.T, ⟨_, c⟩, sub, opq, ini, ve⟩, hcd, ⟨_, _, _, _, _, _, hcode, hvs, hfile⟩, ⟨_, _, _, hcell⟩, mg_none_of KX G hsm, nscope_by S, ⟨ar, hp, har⟩, hnd, hks, htop, hst, fun L => rfl, hev, hsw, hin⟩ hf hg hdx hdc hdx' hdc' hsw2 hsw3,
    fun s u0 ws _ hl => by
      match ws, hl with
      | [u2, u1], _ => exact .of_eq (hb u0 u1 u2),
    mg_of KX G a⟩
end
end DL
set_option Elab.async false
set_option linter.all false
set_option maxRecDepth 100000
set_option maxHeartbeats 4000000
namespace DL
open PySem PySem.Spec PyProof.Rows L2
variable [Tb]
abbrev DVL := DS → (List PyData → DS → Prop) → Prop
def upVL (K : PySem.W.Frag) (w : DVL) : TE := fun σ H Q => ∃ B G δ R, Rel K B G δ σ H ∧ w δ R ∧ ∀ l H' G' xs δ', R xs δ' → Same G G' → Rel K B G' δ' σ H' → (∃ vs, G' l = some (.lst vs) ∧ ErrL K G' vs xs) → Q (.ref l) H'
abbrev JVL (X : Cx) (e : Expr) (w : DVL) : Prop := PE X e (upVL X.K w)
def upVA (K : PySem.W.Frag) (w : DVL) : TA := fun σ H Q => ∃ B G δ R, Rel K B G δ σ H ∧ w δ R ∧ ∀ vs H' G' xs δ', R xs δ' → Same G G' → Rel K B G' δ' σ H' → ErrL K G' vs xs → Q vs H'
abbrev JVA (X : Cx) (es : List Expr) (w : DVL) : Prop := PA X es (upVA X.K w)
def wVNil : DVL := fun δ R => R [] δ
def wVCons (w : DV) (r : DVL) : DVL := fun δ R => w δ fun x δ1 => r δ1 fun xs δ2 => R (x :: xs) δ2
def wVLst (w : DVL) : DVL := fun δ R => w δ fun xs δ1 => xs.length ≤ 1000 ∧ R xs δ1
def wVAdd (wa wb : DVL) : DVL := fun δ R => wa δ fun xs δ1 => wb δ1 fun ys δ2 => xs.length + ys.length ≤ 1000 ∧ R (xs ++ ys) δ2
def elC (c : Option Cell) (k : List PyData → Prop) (_u : Stop k) : Prop := ∃ l xs, c = some (.gx (.el l xs)) ∧ k xs
def erC (c : Option Cell) (k : PyData → Prop) (_u : Stop k) : Prop := ∃ a x, c = some (.gx (.er a x)) ∧ k x
def wVLV (i : Nat) : DVL := fun δ R => elC δ[i]? (fun xs => R xs δ) .mk
def wVV (i : Nat) : DV := fun δ R => erC δ[i]? (fun x => R x δ) .mk
def ixV (xs : List PyData) (y : PyData) (k : PyData → Prop) (_u : Stop k) : Prop := ∃ (n : Nat) (x : PyData), y = .int (n : Int) ∧ xs[n]? = some x ∧ k x
def wVIx (wa : DVL) (wb : DE) : DV := fun δ R => wa δ fun xs δ1 => wb δ1 fun o δ2 => use o δ2 fun y => ixV xs y (fun x => R x δ2) .mk
def vfC (x : PyData) (ns : List Str) (f : Str) (k : PyData → Prop) (_u : Stop k) : Prop := ∃ n fs y, x = excD n fs ∧ n ∈ ns ∧ fs.lookup f = some y ∧ k y
def wVf (ns : List Str) (f : Str) (w : DV) : DE := fun δ R => w δ fun x δ1 => vfC x ns f (fun y => R (.d y) δ1) .mk
def visC (x : PyData) (ns : List Str) (k : Str → Prop) (_u : Stop k) : Prop := ∃ n fs, x = excD n fs ∧ n ∈ ns ∧ k n
def wVis (ns : List Str) (isin : Str → Bool) (w : DV) : DE := fun δ R => w δ fun x δ1 => visC x ns (fun n => R (.d (.bool (isin n))) δ1) .mk
def mVL (w : DVL) : DM := fun δ R => w δ fun xs δ1 => ∀ l, R (.gx (.el l xs)) δ1
theorem errL_len {K : PySem.W.Frag} {G : Hp} : ∀ {vs : List V} {xs : List PyData}, ErrL K G vs xs → vs.length = xs.length
  | [], [], _ => rfl
  | _ :: _, _ :: _, ⟨_, t⟩ => congrArg (· + 1) (errL_len t)
theorem errL_app {K : PySem.W.Frag} {G : Hp} : ∀ {vs us : List V} {xs ys : List PyData}, ErrL K G vs xs → ErrL K G us ys → ErrL K G (vs ++ us) (xs ++ ys)
  | [], _, [], _, _, h => h
  | _ :: _, _, _ :: _, _, ⟨a, t⟩, h => ⟨a, errL_app t h⟩
theorem errL_at {K : PySem.W.Frag} {G : Hp} : ∀ {vs : List V} {xs : List PyData} {i : Nat} {x : PyData}, ErrL K G vs xs → xs[i]? = some x → ∃ a, vs[i]? = some (.ref a) ∧ ErrG K G a x
  | [], [], _, _, _, h => by cases h
  | _ :: _, _ :: _, 0, _, ⟨⟨a, e, g⟩, _⟩, h => by cases h; exact ⟨a, by rw [e]; rfl, g⟩
  | _ :: _, _ :: _, i + 1, _, ⟨_, t⟩, h => errL_at (i := i) t h
section
variable {X : Cx} {e a b : Expr} {es : List Expr} {pos : Pos}
theorem jva_nil : JVA X [] wVNil := pa_le pa_nil fun pins s σ H Q I ⟨B, G, δ, R, rel, hw, k⟩ => k [] H G [] δ hw (Same.refl _) rel trivial
theorem jva_cons {w : DV} {r : DVL} (h : JV X e w) (t : JVA X es r) (hs : starEach (e :: es) X.env = (false, eval e X.env) :: starEach es X.env := by rfl) : JVA X (e :: es) (wVCons w r) :=
  pa_le (pa_cons h t hs) fun pins s σ H Q I ⟨B, G, δ, R, rel, hw, k⟩ => ⟨B, G, δ, _, rel, hw, fun a H1 G1 x δ1 r1 s1 rel1 g1 => ⟨B, G1, δ1, _, rel1, r1, fun vs H2 G2 xs δ2 r2 s2 rel2 g2 => k _ H2 G2 _ δ2 r2 (s1.trans s2) rel2 ⟨⟨a, rfl, g1.mono s2⟩, g2⟩⟩⟩
theorem jvl_lst {w : DVL} (h : JVA X es w) : JVL X (.List es pos) (wVLst w) :=
  pe_le (pe_lst h) fun pins s σ H Q I ⟨B, G, δ, R, rel, hw, k⟩ => ⟨B, G, δ, _, rel, hw, fun vs H1 G1 xs δ1 ⟨hl, r1⟩ s1 rel1 g1 => ⟨by rw [errL_len g1]; exact le_line hl, fun p np => by
    obtain ⟨rel2, s2⟩ := rel1.laid (o := .lst vs) np
    exact k p _ _ xs δ1 r1 (s1.trans s2) rel2 ⟨vs, upd_same, g1.mono s2⟩⟩⟩
theorem jvl_add {wa wb : DVL} (ha : JVL X a wa) (hb : JVL X b wb) : JVL X (.BinOp a .Add b pos) (wVAdd wa wb) :=
  pe_le (pe_op op_cat ha hb) fun pins s σ H Q I ⟨B, G, δ, R, rel, hw, k⟩ => ⟨B, G, δ, _, rel, hw, fun l H1 G1 xs δ1 r1 s1 rel1 ⟨vs, e1, g1⟩ => ⟨B, G1, δ1, _, rel1, r1, fun l2 H2 G2 ys δ2 ⟨hl, r2⟩ s2 rel2 ⟨us, e2, g2⟩ => by
    have g1' := g1.mono s2
    refine ⟨l, l2, vs, us, rfl, rfl, rel2.sg _ _ (s2 _ _ e1), rel2.sg _ _ e2, by rw [errL_len g1, errL_len g2]; exact le_line hl, fun p np => ?_⟩
    obtain ⟨rel3, s3⟩ := rel2.laid (o := .lst (vs ++ us)) np
    exact k p _ _ _ δ2 r2 (s1.trans (s2.trans s3)) rel3 ⟨_, upd_same, errL_app (g1'.mono s3) (g2.mono s3)⟩⟩⟩
theorem jvl_var {x : Str} {i : Nat} (h : PE X (.Name x pos) (tVar i)) : JVL X (.Name x pos) (wVLV i) := pe_le h fun pins s σ H Q I ⟨B, G, δ, R, rel, ⟨l, xs, e, r⟩, k⟩ => by
  obtain ⟨o, hσ, ho, vs, e1, g1⟩ := rel.at e
  subst ho
  exact ⟨.ref l, hσ, k l H G xs δ r (Same.refl _) rel ⟨vs, e1, g1⟩⟩
theorem jv_var {x : Str} {i : Nat} (h : PE X (.Name x pos) (tVar i)) : JV X (.Name x pos) (wVV i) := pe_le h fun pins s σ H Q I ⟨B, G, δ, R, rel, ⟨a, x', e, r⟩, k⟩ => by
  obtain ⟨o, hσ, ho, g1⟩ := rel.at e
  subst ho
  exact ⟨.ref a, hσ, k a H G x' δ r (Same.refl _) rel g1⟩
theorem jv_ix {wa : DVL} {wb : DE} (ha : JVL X a wa) (hb : JE X b wb) (hs : PlainIx b) : JV X (.Subscript a b pos) (wVIx wa wb) :=
  pe_le (pe_ix ix_list ha hb hs) fun pins s σ H Q I ⟨B, G, δ, R, rel, hw, k⟩ => ⟨B, G, δ, _, rel, hw, fun l H1 G1 xs δ1 r1 s1 rel1 ⟨vs, e1, g1⟩ => ⟨B, G1, δ1, _, rel1, r1, fun v H2 G2 o δ2 r2 s2 rel2 ok2 => by
    obtain ⟨y, ⟨n, x, ey, ex, q⟩, bd⟩ := use_ok rel2 ok2 r2
    subst ey
    obtain rfl := bor_int bd
    obtain ⟨p, ep, gp⟩ := errL_at (g1.mono s2) ex
    exact ⟨l, vs, (n : Int), .ref p, rfl, rfl, SqL.of (rel2.sg _ _ (s2 _ _ e1)), atI_nat ep, k p H2 G2 x δ2 q (s1.trans s2) rel2 gp⟩⟩⟩
theorem jm_vl {w : DVL} (h : JVL X e w) : JM X e (mVL w) := pe_le h fun pins s σ H Q I ⟨B, G, δ, R, rel, hw, k⟩ => ⟨B, G, δ, _, rel, hw, fun l H1 G1 xs δ1 r1 s1 rel1 g1 =>
  k (.ref l) H1 G1 (.gx (.el l xs)) δ1 (r1 l) s1 (by show Rel X.K (bov B H1 []) G1 δ1 σ H1; rw [bov_nil]; exact rel1) (fun b m => nomatch m) ⟨rfl, g1⟩⟩
section
variable {TL : XNames} {ns : List Str} {f c : Str} {isin : Str → Bool} {w : DV} {px pc : Pos}
theorem err_cls {K : PySem.W.Frag} {G : Hp} {p : Addr} {n : Str} {fs : List (Str × PyData)} (tn : TlN K TL ns) (g : ErrG K G p (excD n fs)) (hn : n ∈ ns) : ∃ C d, (n, C) ∈ TL ∧ G p = some (exo p C d) ∧
    ((∃ (dd : Addr) (ws : List (Str × V)), d = some dd ∧ G dd = some (exd dd ws) ∧ ws.map (·.1) = fs.map (·.1) ∧ DnL K G (ws.map (·.2)) (fs.map (·.2))) ∨ (fs = [] ∧ d = none)) := by
  obtain ⟨n1, C1, fs1, d, e1, e2, e3, e4⟩ := g
  obtain ⟨rfl, rfl⟩ := excD_inj e1
  obtain ⟨C, h1, h2⟩ := tn n hn
  rw [e2] at h2
  cases h2
  exact ⟨C1, d, h1, e3, e4⟩
theorem je_vf (tl : TLok X.K TL) (tn : TlN X.K TL ns) (fc : FC X.K TL f) (h : JV X e w) (hb : attributeBase e f X.env (eval e X.env) = eval e X.env := by rfl) : JE X (.Attribute e f pos) (wVf ns f w) :=
  pe_le (pe_xv h hb) fun pins s σ H Q I ⟨B, G, δ, R, rel, hw, k⟩ => ⟨B, G, δ, _, rel, hw, fun p H1 G1 x δ1 ⟨n, fs, y, ex, hn, l, r1⟩ s1 rel1 g1 => by
    subst ex
    obtain ⟨C, d, hT, e3, ⟨dd, ws, rfl, e4, e5, e6⟩ | ⟨rfl, _⟩⟩ := err_cls tn g1 hn
    · obtain ⟨v, lv, dv⟩ := look_in e5 e6 l
      exact ⟨p, C, dd, ws, v, rfl, (tl n C hT).xf, fc n C hT, rel1.sg _ _ e3, rel1.sg _ _ e4, lv, k v H1 G1 (.d y) δ1 r1 s1 rel1 dv⟩
    · cases l⟩
theorem vis_up {σ : L2.St} {H : Hp} {Q : VK} {cv : Value} {c0 : V} (tl : TLok X.K TL) (tn : TlN X.K TL ns) (hk : ∀ n C, (n, C) ∈ TL → PySem.W.kitOne X.K (.ref C) cv = some (isin n)) (hc : ∀ u, RelV c0 u → u = cv) (h : up X.K (wVis ns isin w) σ H Q) :
    upV X.K w σ H (fun v H1 => rIsV X.K [v, c0] H1 Q) := by
  obtain ⟨B, G, δ, R, rel, hw, k⟩ := h
  refine ⟨B, G, δ, _, rel, hw, fun p H1 G1 x δ1 ⟨n, fs, ex, hn, r1⟩ s1 rel1 g1 => ?_⟩
  subst ex
  obtain ⟨C, d, hT, e3, e4⟩ := err_cls tn g1 hn
  refine ⟨p, C, d, c0, cv, isin n, rfl, (tl n C hT).ec, hc, hk n C hT, rel1.sg _ _ e3, ?_, k _ H1 G1 (.d (.bool (isin n))) δ1 r1 s1 rel1 (Dn.bl _)⟩
  rcases e4 with ⟨dd, ws, rfl, e4, _⟩ | ⟨_, rfl⟩
  · exact .inr ⟨dd, ws, rfl, rel1.sg _ _ e4⟩
  · exact .inl rfl
theorem je_vis (tl : TLok X.K TL) (tn : TlN X.K TL ns) (ic : IC X.K X.mg TL c isin) (h : JV X e w) (hgc : Gl X c) (hg : Gl X "isinstance") (hm : X.mg "isinstance" = none) (hdc : (c == ("__debug__" : Str)) = false := by decide)
    (hs1 : starEach [e, .Name c pc] X.env = (false, eval e X.env) :: starEach [.Name c pc] X.env := by rfl) (hs2 : starEach [.Name c pc] X.env = (false, eval (.Name c pc) X.env) :: starEach [] X.env := by rfl) (hpl : (backTo pos (starEach [.Name c pc] X.env)).any (·.1) = false := by rfl) :
    JE X (.Call (.Name "isinstance" px) [e, .Name c pc] [] pos) (wVis ns isin w) := by
  obtain ⟨cc, h1, h2⟩ := ic
  exact pe_le (pe_callB call_isV hg hm (by rfl) (pa_cons h (pa_cons (pe_glob (v := .ref cc) hgc h1 rfl hdc) pa_nil hs2) hs1) (by decide) (by decide) hs1 hpl) fun pins s σ H Q I q => vis_up (cv := .ref cc) tl tn h2 (fun u r => r) q
theorem je_visb {c : String} (tl : TLok X.K TL) (tn : TlN X.K TL ns) (ic : ICb X.K X.mg TL c isin) (h : JV X e w) (hgc : Gl X (Str.ofString c)) (hg : Gl X "isinstance") (hm : X.mg "isinstance" = none) (hnn : Str.ofString c ≠ "__name__" := by decide) (hdc : (Str.ofString c == ("__debug__" : Str)) = false := by decide)
    (hs1 : starEach [e, .Name (Str.ofString c) pc] X.env = (false, eval e X.env) :: starEach [.Name (Str.ofString c) pc] X.env := by rfl) (hs2 : starEach [.Name (Str.ofString c) pc] X.env = (false, eval (.Name (Str.ofString c) pc) X.env) :: starEach [] X.env := by rfl) (hpl : (backTo pos (starEach [.Name (Str.ofString c) pc] X.env)).any (·.1) = false := by rfl) :
    JE X (.Call (.Name "isinstance" px) [e, .Name (Str.ofString c) pc] [] pos) (wVis ns isin w) := by
  obtain ⟨h0, h1, h2⟩ := ic
  exact pe_le (pe_callB call_isV hg hm (by rfl) (pa_cons h (pa_cons (pe_bltn (v := .ty c) hgc h0 h1 rfl hnn hdc) pa_nil hs2) hs1) (by decide) (by decide) hs1 hpl) fun pins s σ H Q I q => vis_up (c0 := .ty c) (cv := .type c) tl tn h2 (fun u r => r) q
end
end
end DL
set_option Elab.async false
set_option linter.all false
set_option maxRecDepth 100000
set_option maxHeartbeats 4000000
namespace DL
open PySem PySem.Spec PyProof.Rows L2
variable [Tb]
def wV1K (n f : Str) (w : DA) : DV := wV1 n f w
def wV2K (n f g : Str) (w : DA) : DV := fun δ R => w δ fun os δ1 => lkL os δ1 fun xs δ2 => match xs with
  | [y, x] => R (excD n [(g, y), (f, x)]) δ2
  | _ => False
section
variable {X : Cx} {TL : XNames} {n f g : Str} {e : Expr} {es : List Expr} {kws : List Keyword} {wa : DA} {p pos : Pos}
theorem rel_err2 {C : Addr} {K : PySem.W.Frag} {B G H : Hp} {δ : DS} {σ : L2.St} {a dx : Addr} {ws us : List (Str × V)} {o : HO} (rel : Rel K B G δ σ H) (na : H a = none) (n1 : H dx = none) (n2 : dx ≠ a) :
    ∃ G', Same G G' ∧ Rel K B G' δ σ (upd (upd (upd (upd H a o) dx (exd dx us)) a (exo a C (some dx))) dx (exd dx ws)) ∧ G' a = some (exo a C (some dx)) ∧ G' dx = some (exd dx ws) := by
  have e : upd (upd (upd (upd H a o) dx (exd dx us)) a (exo a C (some dx))) dx (exd dx ws) = upd (upd H dx (exd dx ws)) a (exo a C (some dx)) := by
    funext b
    by_cases h1 : b = dx
    · rw [h1, upd_same, upd_ne n2, upd_same]
    · rw [upd_ne h1]
      by_cases h2 : b = a
      · rw [h2, upd_same, upd_same]
      · rw [upd_ne h2, upd_ne h1, upd_ne h2, upd_ne h2, upd_ne h1]
  rw [e]
  exact rel_err rel na n1 n2
theorem jv_2 (h : XC2 X.prog X.w X.K X.mg X.base TL n f g) (tg : TLG X.K TL) (hr : RoomG 2 X.A) (hg : Gl X n) (ha : JA X (e :: es) wa)
    (hdb : (n == ("__debug__" : Str)) = false := by decide) (he : starEach (e :: es) X.env = (false, eval e X.env) :: starEach es X.env := by rfl) (hpl : (backTo pos (starEach es X.env)).any (·.1) = false := by rfl) :
    JV X (.Call (.Name n p) (e :: es) [] pos) (wV2 n f g wa) := by
  obtain ⟨C, fI, fd, ps, h1, h2, h3, h4, h5, h6, h7⟩ := h
  have h9 := tg n C h1
  refine pe_le (pe_class h2.T h3 h4 h5 hr.rm h6 pass0 hg h7 ha hdb he hpl) fun pins s σ H Q I ⟨B, G, δ, R, rel, hw, k⟩ => ⟨B, G, δ, _, rel, hw, fun vs H1 G1 os δ1 r1 s1 rel1 ok1 => ?_⟩
  obtain ⟨G2, δ2, xs, q, s2, rel2, t⟩ := lkL_ok rel1 ok1 r1
  match xs, t, q with
  | [y, z], t, q =>
    obtain ⟨v, u, rfl, dv, du⟩ := t.two
    refine ⟨by simp, fun a na => ⟨a, v, u, rfl, upd_same, fun dx n1 n2 => ⟨rfl, ?_⟩⟩⟩
    have n1' : H1 dx = none := by rw [upd_ne n2] at n1; exact n1
    obtain ⟨G3, s3, rel3, e1, e2⟩ := rel_err2 (C := C) (o := exo a C none) (us := [(f, v)]) (ws := [(g, u), (f, v)]) rel2 na n1' n2
    exact k a _ G3 _ δ2 q (s1.trans (s2.trans s3)) rel3 ⟨n, C, [(g, z), (f, y)], some dx, rfl, h9, e1, .inl ⟨dx, _, rfl, e2, rfl, .cons (du.mono s3) (.cons (dv.mono s3) .nil)⟩⟩
theorem jv_0 (h : XC0 X.K X.mg TL n) (tg : TLG X.K TL) (hg : Gl X n) (hdb : (n == ("__debug__" : Str)) = false := by decide) : JV X (.Call (.Name n p) [] [] pos) (wV0 n) := by
  obtain ⟨C, bmB, h1, h2, h3, h4, h5⟩ := h
  have h9 := tg n C h1
  refine pe_le (pe_class0 h3 h4 h5 h2.T.kC hg hdb) fun pins s σ H Q I ⟨B, G, δ, R, rel, hw, k⟩ a na => ?_
  obtain ⟨rel2, s2⟩ := rel.laid (o := exo a C none) na
  exact k a _ _ _ δ hw s2 rel2 ⟨n, C, [], none, rfl, h9, upd_same, .inr ⟨rfl, rfl⟩⟩
theorem jv_1K (h : XC1K X.prog X.w X.K X.mg X.base TL n f) (tg : TLG X.K TL) (hr : RoomG 2 X.A) (hg : Gl X n) (hkw : JK X kws wa) (hdb : (n == ("__debug__" : Str)) = false := by decide)
    (hall : (backToKw pos (keywordEach kws X.env)).all (·.1.isSome) = true := by rfl) (hks : (backToKw pos (keywordEach kws X.env)).filterMap (·.1) = [f] := by rfl)
    (hpl : ((backTo pos (starEach [] X.env)).any (·.1) || (backToKw pos (keywordEach kws X.env)).any (·.1.isNone)) = false := by rfl) : JV X (.Call (.Name n p) [] kws pos) (wV1K n f wa) := by
  obtain ⟨C, fI, fd, ps, h1, h2, h3, h4, h5, h6, h7⟩ := h
  have h9 := tg n C h1
  refine pe_le (pe_classK h2.T h3 h4 h5 hr.rm h6 pass0 hg h7 hkw hdb hall hks hpl) fun pins s σ H Q I ⟨B, G, δ, R, rel, hw, k⟩ => ⟨B, G, δ, _, rel, hw, fun vs H1 G1 os δ1 r1 s1 rel1 ok1 => ?_⟩
  obtain ⟨G2, δ2, xs, q, s2, rel2, t⟩ := lkL_ok rel1 ok1 r1
  match xs, t, q with
  | [y], t, q =>
    obtain ⟨v, rfl, dv⟩ := t.one
    refine ⟨⟨rfl, by simp⟩, fun a na => ⟨a, v, rfl, upd_same, fun dx n1 n2 => ⟨rfl, ?_⟩⟩⟩
    have n1' : H1 dx = none := by rw [upd_ne n2] at n1; exact n1
    rw [upd3 n2]
    obtain ⟨G3, s3, rel3, e1, e2⟩ := rel_err (C := C) (ws := [(f, v)]) rel2 na n1' n2
    exact k a _ G3 _ δ2 q (s1.trans (s2.trans s3)) rel3 ⟨n, C, [(f, y)], some dx, rfl, h9, e1, .inl ⟨dx, [(f, v)], rfl, e2, rfl, .cons (dv.mono s3) .nil⟩⟩
theorem jv_2K (h : XC2K X.prog X.w X.K X.mg X.base TL n f g) (tg : TLG X.K TL) (hr : RoomG 2 X.A) (hg : Gl X n) (hkw : JK X kws wa) (hdb : (n == ("__debug__" : Str)) = false := by decide)
    (hall : (backToKw pos (keywordEach kws X.env)).all (·.1.isSome) = true := by rfl) (hks : (backToKw pos (keywordEach kws X.env)).filterMap (·.1) = [g, f] := by rfl)
    (hpl : ((backTo pos (starEach [] X.env)).any (·.1) || (backToKw pos (keywordEach kws X.env)).any (·.1.isNone)) = false := by rfl) : JV X (.Call (.Name n p) [] kws pos) (wV2K n f g wa) := by
  obtain ⟨C, fI, fd, ps, h1, h2, h3, h4, h5, h6, h7⟩ := h
  have h9 := tg n C h1
  refine pe_le (pe_classK h2.T h3 h4 h5 hr.rm h6 pass0 hg h7 hkw hdb hall hks hpl) fun pins s σ H Q I ⟨B, G, δ, R, rel, hw, k⟩ => ⟨B, G, δ, _, rel, hw, fun vs H1 G1 os δ1 r1 s1 rel1 ok1 => ?_⟩
  obtain ⟨G2, δ2, xs, q, s2, rel2, t⟩ := lkL_ok rel1 ok1 r1
  match xs, t, q with
  | [z, y], t, q =>
    obtain ⟨u, v, rfl, du, dv⟩ := t.two
    refine ⟨⟨rfl, by simp⟩, fun a na => ⟨a, v, u, rfl, upd_same, fun dx n1 n2 => ⟨rfl, ?_⟩⟩⟩
    have n1' : H1 dx = none := by rw [upd_ne n2] at n1; exact n1
    obtain ⟨G3, s3, rel3, e1, e2⟩ := rel_err2 (C := C) (o := exo a C none) (us := [(f, v)]) (ws := [(g, u), (f, v)]) rel2 na n1' n2
    exact k a _ G3 _ δ2 q (s1.trans (s2.trans s3)) rel3 ⟨n, C, [(g, z), (f, y)], some dx, rfl, h9, e1, .inl ⟨dx, _, rfl, e2, rfl, .cons (du.mono s3) (.cons (dv.mono s3) .nil)⟩⟩
end
def wCallE (sp : DSp) (w : DV) : DE := fun δ R => w δ fun x δ1 => ∀ a, ask sp [.gx (.er a x)] (fun y _ => R (.d y) δ1) .mk
section
variable {X : Cx} {k : Nat} {f : Addr} {fd : FuncData} {ps : List Str} {x : Str} {p pos : Pos} {e : Expr} {sp : DSp} {w : DV}
theorem je_callE (F : FnG X.prog X.w X.K X.mg X.base CX0 k f fd ps (liftSp X.K sp)) (hr : RoomG k X.A) (hg : Gl X x) (hm : X.mg x = some (.ref f)) (hk : PySem.W.keepIn X.K (.ref f) = true) (hb : Binds X.K fd ps [])
    (h : JV X e w) (hdb : (x == ("__debug__" : Str)) = false := by decide) (he : starEach [e] X.env = (false, eval e X.env) :: starEach [] X.env := by rfl) (hpl : (backTo pos (starEach [] X.env)).any (·.1) = false := by rfl) : JE X (.Call (.Name x p) [e] [] pos) (wCallE sp w) :=
  pe_le (pe_callG (E := E0) F hr hg hm hk hb pass0 (pa_cons h pa_nil he) hdb he hpl) fun pins s σ H Q I ⟨B, G, δ, R, rel, hw, kk⟩ => ⟨B, G, δ, _, rel, hw, fun a H1 G1 y δ1 q s1 rel1 g1 => by
    have od : OpdsOk X.K G1 σ [] ([] : List Opd) := .nil
    have nd : (slotsOf ([] : List Opd)).Nodup := List.nodup_nil
    have rn := (call_rel rel1 od nd).consGx (t := .er a y) (o := some (.ref a)) rfl ⟨rfl, g1⟩
    show liftSp X.K sp ([V.ref a] ++ []) H1 Q E0
    refine ⟨_, G1, _, _, rn, q a, fun v H' G' z cs r s3 rel3 dn => ?_⟩
    cases cs with
    | nil => have := rel3.len; simp at this
    | cons c0 cs =>
      have rel4 := call_back (cs := cs) rel1 od nd s3 rel3.drop1
      have e0 : putBack ([] : List Opd) cs δ1 = δ1 := rfl
      rw [e0] at rel4
      exact kk v H' G' (.d z) δ1 r (s1.trans s3) rel4 dn⟩
end
abbrev DTN := (Cell → DS → Prop) → DS → Prop
def upSN (X : Cx) (w : DTN) : TS := fun D σ H => ∃ B G δ R, Rel X.K B G δ σ H ∧ w R δ ∧
  (∀ v σ' H' G' c δ', R c δ' → Same G G' → Rel X.K (bov B H' c.fp) G' δ' σ' H' → (∀ a ∈ c.fp, B a = none) → CellOk X.K G' H' c (some v) → D.rt v H')
abbrev JSsN (X : Cx) (st : List Stmt) (w : DTN) : Prop := PSs X st (upSN X w)
def mRetN (w : DM) : DTN := fun R δ => w δ R
def wSeqN (t : DTS) (u : DTN) : DTN := fun R δ => t { nx := u R, rt := fun _ _ => False } δ
section
variable {X : Cx} {st : Stmt} {rest : List Stmt} {e : Expr} {pos : Pos}
theorem jsn_ret {w : DM} (h : JM X e w) : JSsN X [.Return (some e) pos] (mRetN w) :=
  pss_le (pss_one (ps_ret h)) fun pins s σ H D I ⟨B, G, δ, R, rel, hw, k⟩ => ⟨B, G, δ, R, rel, hw, fun v H' G' c δ' r s1 rel' hB ok => k v σ H' G' c δ' r s1 rel' hB ok⟩
theorem jsn_cons {t : DTS} {u : DTN} (h1 : JS X st t) (h2 : JSsN X rest u) : JSsN X (st :: rest) (wSeqN t u) :=
  pss_le (pss_cons h1 h2) fun pins s σ H D I ⟨B, G, δ, R, rel, hw, k⟩ =>
    ⟨B, G, δ, _, rel, hw, ⟨fun σ' H' G' δ' r sG rel' => ⟨B, G', δ', R, rel', r, fun v σ2 H2 G2 c δ2 r2 s2 rel2 hB ok => k v σ2 H2 G2 c δ2 r2 (sG.trans s2) rel2 hB ok⟩,
      fun _ _ _ _ _ _ h => h.elim, fun _ _ _ _ h => h.elim, fun _ _ _ _ h => h.elim⟩⟩
end
theorem okN {P : Program} {w : World} {K : PySem.W.Frag} {mg : Str → Option Value} {base : Heap} {x qual : Str} {st : Stmt} {f : Addr} {fd : FuncData} {N ps : List Str} {k : Nat} {sp : DSpM} {wb : DTN} (F : Fun K x qual st f fd) (S : FnScope N ps (defScope st)) (dl : ∀ cs R, sp cs R → cs.length = ps.length)
    (body : ∀ (cdv : Value) (A : Around) (outer : List Env) (s : Shared) (H : Hp) (E : XK), RoomG k (A.deeper (envOfC qual (defScope st) s.heap.objs.size f cdv)) → JSsN (cxOf CX0 P w K mg base N qual (defScope st) f cdv A outer s H E) (defBody st) wb)
    (rd : ∀ cs R, sp cs R → wb (fun c δ => sameIo cs δ ∧ R c (outC cs δ)) (start0 N.length cs)) : FnG P w K mg base CX0 (k + 1) f fd ps (liftM K sp) := by
  obtain ⟨oc, od, kV, doc, pm, an, cdv, ct, osl, rfl, lk, hcd⟩ := F.ex
  refine fnG_of lk hcd S (fun vs H Q E ⟨B, G, cs, R, rel, hs, _⟩ => by rw [← dl cs R hs, ← rel.len, List.length_map]) fun A outer s H vs Q E hr ⟨B, G, cs, R, rel, hs, k⟩ => ?_
  exact ⟨_, body cdv A outer s H E hr, B, G, _, _, rel_start rel, rd cs R hs, fun v σ' H' G' c δ' ⟨io, r⟩ sG rel' hB ok => k v H' G' c _ r sG (rel_endB rel rel' sG io) hB ok⟩
@[simp ↓] theorem wVNil_ap (δ : DS) (R : List PyData → DS → Prop) : wVNil δ R = R [] δ := rfl
@[simp ↓] theorem wVCons_ap (w : DV) (r : DVL) (δ : DS) (R : List PyData → DS → Prop) : wVCons w r δ R = (w δ fun x δ1 => r δ1 fun xs δ2 => R (x :: xs) δ2) := rfl
@[simp ↓] theorem wVLst_ap (w : DVL) (δ : DS) (R : List PyData → DS → Prop) : wVLst w δ R = (w δ fun xs δ1 => xs.length ≤ 1000 ∧ R xs δ1) := rfl
@[simp ↓] theorem wVAdd_ap (wa wb : DVL) (δ : DS) (R : List PyData → DS → Prop) : wVAdd wa wb δ R = (wa δ fun xs δ1 => wb δ1 fun ys δ2 => xs.length + ys.length ≤ 1000 ∧ R (xs ++ ys) δ2) := rfl
@[simp ↓] theorem wVLV_ap (i : Nat) (δ : DS) (R : List PyData → DS → Prop) : wVLV i δ R = elC δ[i]? (fun xs => R xs δ) .mk := rfl
@[simp ↓] theorem wVV_ap (i : Nat) (δ : DS) (R : PyData → DS → Prop) : wVV i δ R = erC δ[i]? (fun x => R x δ) .mk := rfl
@[simp ↓] theorem wVIx_ap (wa : DVL) (wb : DE) (δ : DS) (R : PyData → DS → Prop) : wVIx wa wb δ R = (wa δ fun xs δ1 => wb δ1 fun o δ2 => use o δ2 fun y => ixV xs y (fun x => R x δ2) .mk) := rfl
@[simp ↓] theorem wVf_ap (ns : List Str) (f : Str) (w : DV) (δ : DS) (R : Opd → DS → Prop) : wVf ns f w δ R = (w δ fun x δ1 => vfC x ns f (fun y => R (.d y) δ1) .mk) := rfl
@[simp ↓] theorem wVis_ap (ns : List Str) (isin : Str → Bool) (w : DV) (δ : DS) (R : Opd → DS → Prop) : wVis ns isin w δ R = (w δ fun x δ1 => visC x ns (fun n => R (.d (.bool (isin n))) δ1) .mk) := rfl
@[simp ↓] theorem mVL_ap (w : DVL) (δ : DS) (R : Cell → DS → Prop) : mVL w δ R = (w δ fun xs δ1 => ∀ l, R (.gx (.el l xs)) δ1) := rfl
@[simp ↓] theorem wV0_ap (n : Str) (δ : DS) (R : PyData → DS → Prop) : wV0 n δ R = R (excD n []) δ := rfl
@[simp ↓] theorem wCallE_ap (sp : DSp) (w : DV) (δ : DS) (R : Opd → DS → Prop) : wCallE sp w δ R = (w δ fun x δ1 => ∀ a, ask sp [.gx (.er a x)] (fun y _ => R (.d y) δ1) .mk) := rfl
@[simp ↓] theorem mRetN_ap (w : DM) (R : Cell → DS → Prop) (δ : DS) : mRetN w R δ = w δ R := rfl
@[simp ↓] theorem wSeqN_ap (t : DTS) (u : DTN) (R : Cell → DS → Prop) (δ : DS) : wSeqN t u R δ = t { nx := u R, rt := fun _ _ => False } δ := rfl
def oneC (xs : List PyData) (k : PyData → Prop) (_u : Stop k) : Prop := match xs with
  | [x] => k x
  | _ => False
def twoC (xs : List PyData) (k : PyData → PyData → Prop) (_u : Stop k) : Prop := match xs with
  | [x, y] => k x y
  | _ => False
@[simp ↓] theorem oneC_1 (x : PyData) (k : PyData → Prop) (u : Stop k) : oneC [x] k u = k x := rfl
@[simp ↓] theorem twoC_2 (x y : PyData) (k : PyData → PyData → Prop) (u : Stop k) : twoC [x, y] k u = k x y := rfl
@[simp ↓] theorem wV1_ap (n f : Str) (w : DA) (δ : DS) (R : PyData → DS → Prop) : wV1 n f w δ R = (w δ fun os δ1 => lkL os δ1 fun xs δ2 => oneC xs (fun x => R (excD n [(f, x)]) δ2) .mk) := rfl
@[simp ↓] theorem wV1K_ap (n f : Str) (w : DA) (δ : DS) (R : PyData → DS → Prop) : wV1K n f w δ R = (w δ fun os δ1 => lkL os δ1 fun xs δ2 => oneC xs (fun x => R (excD n [(f, x)]) δ2) .mk) := rfl
@[simp ↓] theorem wV2_ap (n f g : Str) (w : DA) (δ : DS) (R : PyData → DS → Prop) : wV2 n f g w δ R = (w δ fun os δ1 => lkL os δ1 fun xs δ2 => twoC xs (fun x y => R (excD n [(g, y), (f, x)]) δ2) .mk) := rfl
@[simp ↓] theorem wV2K_ap (n f g : Str) (w : DA) (δ : DS) (R : PyData → DS → Prop) : wV2K n f g w δ R = (w δ fun os δ1 => lkL os δ1 fun xs δ2 => twoC xs (fun y x => R (excD n [(g, y), (f, x)]) δ2) .mk) := rfl
@[simp ↓] theorem elC_el (l : Addr) (xs : List PyData) (k : List PyData → Prop) (u : Stop k) : elC (some (.gx (.el l xs))) k u = k xs := propext ⟨fun ⟨_, _, e, h⟩ => by cases e; exact h, fun h => ⟨l, xs, rfl, h⟩⟩
@[simp ↓] theorem erC_er (a : Addr) (x : PyData) (k : PyData → Prop) (u : Stop k) : erC (some (.gx (.er a x))) k u = k x := propext ⟨fun ⟨_, _, e, h⟩ => by cases e; exact h, fun h => ⟨a, x, rfl, h⟩⟩
theorem ixV_of {xs : List PyData} {n : Nat} {x : PyData} {k : PyData → Prop} {u : Stop k} (e : xs[n]? = some x) : ixV xs (.int (n : Int)) k u = k x := propext ⟨fun ⟨m, z, e1, e2, h⟩ => by
  injection e1 with e1
  obtain rfl : n = m := by omega
  rw [e] at e2; cases e2; exact h, fun h => ⟨n, x, rfl, e, h⟩⟩
theorem vfC_of {n f : Str} {fs : List (Str × PyData)} {y : PyData} {ns : List Str} {k : PyData → Prop} {u : Stop k} (hn : n ∈ ns) (hl : fs.lookup f = some y) : vfC (excD n fs) ns f k u = k y := propext ⟨fun ⟨m, gs, z, e, _, l, h⟩ => by
  obtain ⟨rfl, rfl⟩ := excD_inj e
  rw [hl] at l; cases l; exact h, fun h => ⟨n, fs, y, rfl, hn, hl, h⟩⟩
theorem visC_of {n : Str} {fs : List (Str × PyData)} {ns : List Str} {k : Str → Prop} {u : Stop k} (hn : n ∈ ns) : visC (excD n fs) ns k u = k n := propext ⟨fun ⟨m, gs, e, _, h⟩ => by
  obtain ⟨rfl, rfl⟩ := excD_inj e
  exact h, fun h => ⟨n, fs, rfl, hn, h⟩⟩
end DL
set_option Elab.async false
set_option linter.all false
set_option maxRecDepth 100000
set_option maxHeartbeats 4000000
namespace DL
open PySem PySem.Spec PyProof.Rows L2
def TLm (ns : List Str) (K : PySem.W.Frag) : XNames := ns.map fun n => (n, He.ga K n)
theorem mem_TLm {ns : List Str} {K : PySem.W.Frag} {n : Str} {C : Addr} (h : (n, C) ∈ TLm ns K) : n ∈ ns ∧ C = He.ga K n := by
  obtain ⟨m, hm, e⟩ := List.mem_map.mp h
  cases e
  exact ⟨hm, rfl⟩
def aKitAll (ns : List Str) (T : PySem.W.Frag → Value) : Ask := fun K => ns.all fun n => decide (PySem.W.kitOne K (.ref (He.ga K n)) (T K) = some true)
def aKitSq (ns : List Str) : Ask := fun K => ns.all fun c => ns.all fun n => decide (PySem.W.kitOne K (.ref (He.ga K n)) (.ref (He.ga K c)) = some (n == c))
def aNAll (ns : List Str) (f : Str) : Ask := fun K => ns.all fun n => He.eqO (PySem.W.findIn K (.ref (He.ga K n)) f) (some none)
section
variable {K : PySem.W.Frag} {ns : List Str}
theorem kitAll_ok {T : PySem.W.Frag → Value} (c : aKitAll ns T K = true) : ∀ n C, (n, C) ∈ TLm ns K → PySem.W.kitOne K (.ref C) (T K) = some ((fun _ => true) n) := fun n C m => by
  obtain ⟨h, rfl⟩ := mem_TLm m
  exact of_decide_eq_true (List.all_eq_true.mp c n h)
theorem kitSq_ok {x : Str} (c : aKitSq ns K = true) (hx : x ∈ ns) : ∀ n C, (n, C) ∈ TLm ns K → PySem.W.kitOne K (.ref C) (.ref (He.ga K x)) = some ((fun n => n == x) n) := fun n C m => by
  obtain ⟨h, rfl⟩ := mem_TLm m
  exact of_decide_eq_true (List.all_eq_true.mp (List.all_eq_true.mp c x hx) n h)
theorem nAll_ok {f : Str} (c : aNAll ns f K = true) : ∀ n C, (n, C) ∈ TLm ns K → PySem.W.findIn K (.ref C) f = some none := fun n C m => by
  obtain ⟨h, rfl⟩ := mem_TLm m
  exact He.eqO_ok (List.all_eq_true.mp c n h)
theorem names_in : ∀ n ∈ ns, ∃ C, (n, C) ∈ TLm ns K := fun n h => ⟨_, List.mem_map.mpr ⟨n, h, rfl⟩⟩
end
end DL
set_option Elab.async false
set_option linter.all false
set_option maxRecDepth 100000
set_option maxHeartbeats 4000000
namespace K01
open PySem PySem.Spec PyProof.Rows L2 DL
def topS (i : Nat) : Stmt := PySem.Challenge.pw_twobricks_k01_errors_and_bounds.main.body.getD i (.Pass ⟨0, 0, 0, 0⟩)
abbrev s_Ldeck : Stmt := topS 31
abbrev s_Ldraw : Stmt := topS 32
abbrev s_Lone : Stmt := topS 33
abbrev s_Lodd : Stmt := topS 34
abbrev s_Lmade : Stmt := topS 35
abbrev s_Lclasses : Stmt := topS 36
abbrev s_Lfields : Stmt := topS 37
abbrev s_law : Stmt := topS 38
abbrev sx_BadBox : Stmt := clsT (topS 3) 0
abbrev sx_BadKinds : Stmt := clsT (topS 4) 0
abbrev sx_BadOrder : Stmt := clsT (topS 5) 0
abbrev sx_BadPaper : Stmt := clsT (topS 6) 0
abbrev sx_BadSide : Stmt := clsT (topS 7) 0
abbrev sx_BadText : Stmt := clsT (topS 8) 0
abbrev sx_NoAxis : Stmt := clsT (topS 10) 0
abbrev sx_NoKind : Stmt := clsT (topS 11) 0
abbrev sx_NoNumber : Stmt := clsT (topS 12) 0
abbrev sx_NoSeam : Stmt := clsT (topS 13) 0
abbrev sx_NotFilled : Stmt := clsT (topS 15) 0
abbrev sx_NoVersion : Stmt := clsT (topS 14) 0
abbrev sx_Rejected : Stmt := clsT (topS 17) 0
abbrev sx_TooLarge : Stmt := clsT (topS 18) 0
def loose0 : List Str := ["__name__", "BrickError", "BadBatch", "BadBox", "BadKinds", "BadOrder", "BadPaper", "BadSide", "BadText", "Busy", "NoAxis", "NoKind", "NoNumber", "NoSeam", "NoVersion", "NotFilled", "NothingToUndo", "Rejected", "TooLarge", "TooManyEdits", "UnlikeAxes", "Unfit", "MAX_DIMS", "MAX_SIDE", "MAX_KINDS", "MAX_CELLS", "MAX_FEW", "MAX_ROWS", "HISTORY", "BATCH"]
def loose1 : List Str := ["_law_deck", "_law_draw", "_law_one", "_law_odd", "_law_made", "_law_classes", "_law_fields"]
def loose : List Str := loose0 ++ (loose1)
def tabs : List He.Defn := []
def defs0_0 : List DefF := [
  ⟨fun K => He.ga K "_law_deck", "_law_deck", "_law_deck", s_Ldeck, []⟩,
  ⟨fun K => He.ga K "_law_draw", "_law_draw", "_law_draw", s_Ldraw, []⟩,
  ⟨fun K => He.ga K "_law_one", "_law_one", "_law_one", s_Lone, []⟩,
  ⟨fun K => He.ga K "_law_odd", "_law_odd", "_law_odd", s_Lodd, []⟩,
  ⟨fun K => He.ga K "_law_made", "_law_made", "_law_made", s_Lmade, []⟩,
  ⟨fun K => He.ga K "_law_classes", "_law_classes", "_law_classes", s_Lclasses, []⟩,
  ⟨fun K => He.ga K "_law_fields", "_law_fields", "_law_fields", s_Lfields, []⟩,
  ⟨fun K => He.ga K "law", "law", "law", s_law, []⟩,
  ⟨fun K => He.ma K (He.ga K "BadBox") "__init__", "__init__", "BadBox.__init__", sx_BadBox, ["__class__"]⟩,
  ⟨fun K => He.ma K (He.ga K "BadKinds") "__init__", "__init__", "BadKinds.__init__", sx_BadKinds, ["__class__"]⟩,
  ⟨fun K => He.ma K (He.ga K "BadOrder") "__init__", "__init__", "BadOrder.__init__", sx_BadOrder, ["__class__"]⟩,
  ⟨fun K => He.ma K (He.ga K "BadPaper") "__init__", "__init__", "BadPaper.__init__", sx_BadPaper, ["__class__"]⟩,
  ⟨fun K => He.ma K (He.ga K "BadSide") "__init__", "__init__", "BadSide.__init__", sx_BadSide, ["__class__"]⟩,
  ⟨fun K => He.ma K (He.ga K "BadText") "__init__", "__init__", "BadText.__init__", sx_BadText, ["__class__"]⟩,
  ⟨fun K => He.ma K (He.ga K "NoAxis") "__init__", "__init__", "NoAxis.__init__", sx_NoAxis, ["__class__"]⟩,
  ⟨fun K => He.ma K (He.ga K "NoKind") "__init__", "__init__", "NoKind.__init__", sx_NoKind, ["__class__"]⟩,
  ⟨fun K => He.ma K (He.ga K "NoNumber") "__init__", "__init__", "NoNumber.__init__", sx_NoNumber, ["__class__"]⟩,
  ⟨fun K => He.ma K (He.ga K "NoSeam") "__init__", "__init__", "NoSeam.__init__", sx_NoSeam, ["__class__"]⟩,
  ⟨fun K => He.ma K (He.ga K "NotFilled") "__init__", "__init__", "NotFilled.__init__", sx_NotFilled, ["__class__"]⟩,
  ⟨fun K => He.ma K (He.ga K "NoVersion") "__init__", "__init__", "NoVersion.__init__", sx_NoVersion, ["__class__"]⟩,
  ⟨fun K => He.ma K (He.ga K "Rejected") "__init__", "__init__", "Rejected.__init__", sx_Rejected, ["__class__"]⟩,
  ⟨fun K => He.ma K (He.ga K "TooLarge") "__init__", "__init__", "TooLarge.__init__", sx_TooLarge, ["__class__"]⟩]
def defs0 : List DefF := defs0_0
def defs : List DefF := defs0
def asks0_0 : List Ask := [
  aG "law",
  aG "_law_deck",
  aG "_law_draw",
  aG "_law_one",
  aG "_law_odd",
  aG "_law_made",
  aG "_law_classes",
  aG "_law_fields",
  aZ "abs",
  aZ "len",
  aZ "int",
  aZ "isinstance",
  aZ "range",
  aZ "repr",
  aZ "ValueError",
  aI "BATCH" 20,
  aI "HISTORY" 30,
  aI "MAX_ROWS" 1000,
  aI "MAX_FEW" 20,
  aI "MAX_CELLS" 400,
  aI "MAX_KINDS" 4,
  aI "MAX_SIDE" 1000000000000,
  aI "MAX_DIMS" 4,
  aG "BadBatch",
  aCF "BadBatch",
  aG "BadBox",
  aCF "BadBox",
  aG "BadKinds",
  aCF "BadKinds",
  aG "BadOrder",
  aCF "BadOrder",
  aG "BadPaper",
  aCF "BadPaper",
  aG "BadSide",
  aCF "BadSide",
  aG "BadText",
  aCF "BadText",
  aG "Busy",
  aCF "Busy",
  aG "NoAxis"]
def asks0_1 : List Ask := [
  aCF "NoAxis",
  aG "NoKind",
  aCF "NoKind",
  aG "NoNumber",
  aCF "NoNumber",
  aG "NoSeam",
  aCF "NoSeam",
  aG "NotFilled",
  aCF "NotFilled",
  aG "NothingToUndo",
  aCF "NothingToUndo",
  aG "NoVersion",
  aCF "NoVersion",
  aG "Rejected",
  aCF "Rejected",
  aG "TooLarge",
  aCF "TooLarge",
  aG "TooManyEdits",
  aCF "TooManyEdits",
  aG "Unfit",
  aCF "Unfit",
  aG "UnlikeAxes",
  aCF "UnlikeAxes",
  aX0 "BadBatch",
  aX "BadBox" ["error"] "/claim/cut.py",
  aX "BadKinds" ["error"] "/claim/cut.py",
  aX "BadOrder" ["given"] "/claim/cut.py",
  aX "BadPaper" ["given"] "/claim/cut.py",
  aX "BadSide" ["given"] "/claim/cut.py",
  aX "BadText" ["place"] "/claim/cut.py",
  aX0 "Busy",
  aX "NoAxis" ["given"] "/claim/cut.py",
  aX "NoKind" ["given"] "/claim/cut.py",
  aX "NoNumber" ["number"] "/claim/cut.py",
  aX "NoSeam" ["axis", "at"] "/claim/cut.py",
  aX "NotFilled" ["reason"] "/claim/cut.py",
  aX0 "NothingToUndo",
  aX "NoVersion" ["given"] "/claim/cut.py",
  aX "Rejected" ["index"] "/claim/cut.py",
  aX "TooLarge" ["axis"] "/claim/cut.py"]
def asks0_2 : List Ask := [
  aX0 "TooManyEdits",
  aX0 "Unfit",
  aX0 "UnlikeAxes",
  aKitSq ["BadBatch", "BadBox", "BadKinds", "BadOrder", "BadPaper", "BadSide", "BadText", "Busy", "NoAxis", "NoKind", "NoNumber", "NoSeam", "NotFilled", "NothingToUndo", "NoVersion", "Rejected", "TooLarge", "TooManyEdits", "Unfit", "UnlikeAxes"],
  aNAll ["BadBatch", "BadBox", "BadKinds", "BadOrder", "BadPaper", "BadSide", "BadText", "Busy", "NoAxis", "NoKind", "NoNumber", "NoSeam", "NotFilled", "NothingToUndo", "NoVersion", "Rejected", "TooLarge", "TooManyEdits", "Unfit", "UnlikeAxes"] "axis",
  aNAll ["BadBatch", "BadBox", "BadKinds", "BadOrder", "BadPaper", "BadSide", "BadText", "Busy", "NoAxis", "NoKind", "NoNumber", "NoSeam", "NotFilled", "NothingToUndo", "NoVersion", "Rejected", "TooLarge", "TooManyEdits", "Unfit", "UnlikeAxes"] "index",
  aNAll ["BadBatch", "BadBox", "BadKinds", "BadOrder", "BadPaper", "BadSide", "BadText", "Busy", "NoAxis", "NoKind", "NoNumber", "NoSeam", "NotFilled", "NothingToUndo", "NoVersion", "Rejected", "TooLarge", "TooManyEdits", "Unfit", "UnlikeAxes"] "given",
  aNAll ["BadBatch", "BadBox", "BadKinds", "BadOrder", "BadPaper", "BadSide", "BadText", "Busy", "NoAxis", "NoKind", "NoNumber", "NoSeam", "NotFilled", "NothingToUndo", "NoVersion", "Rejected", "TooLarge", "TooManyEdits", "Unfit", "UnlikeAxes"] "reason",
  aNAll ["BadBatch", "BadBox", "BadKinds", "BadOrder", "BadPaper", "BadSide", "BadText", "Busy", "NoAxis", "NoKind", "NoNumber", "NoSeam", "NotFilled", "NothingToUndo", "NoVersion", "Rejected", "TooLarge", "TooManyEdits", "Unfit", "UnlikeAxes"] "number",
  aNAll ["BadBatch", "BadBox", "BadKinds", "BadOrder", "BadPaper", "BadSide", "BadText", "Busy", "NoAxis", "NoKind", "NoNumber", "NoSeam", "NotFilled", "NothingToUndo", "NoVersion", "Rejected", "TooLarge", "TooManyEdits", "Unfit", "UnlikeAxes"] "place",
  aNAll ["BadBatch", "BadBox", "BadKinds", "BadOrder", "BadPaper", "BadSide", "BadText", "Busy", "NoAxis", "NoKind", "NoNumber", "NoSeam", "NotFilled", "NothingToUndo", "NoVersion", "Rejected", "TooLarge", "TooManyEdits", "Unfit", "UnlikeAxes"] "error",
  aKitAll ["BadBatch", "BadBox", "BadKinds", "BadOrder", "BadPaper", "BadSide", "BadText", "Busy", "NoAxis", "NoKind", "NoNumber", "NoSeam", "NotFilled", "NothingToUndo", "NoVersion", "Rejected", "TooLarge", "TooManyEdits", "Unfit", "UnlikeAxes"] (fun _ => .type "ValueError"),
  aG "BrickError",
  aKitAll ["BadBatch", "BadBox", "BadKinds", "BadOrder", "BadPaper", "BadSide", "BadText", "Busy", "NoAxis", "NoKind", "NoNumber", "NoSeam", "NotFilled", "NothingToUndo", "NoVersion", "Rejected", "TooLarge", "TooManyEdits", "Unfit", "UnlikeAxes"] (fun K => .ref (He.ga K "BrickError")),
  aNAll ["BadBatch", "BadBox", "BadKinds", "BadOrder", "BadPaper", "BadSide", "BadText", "Busy", "NoAxis", "NoKind", "NoNumber", "NoSeam", "NotFilled", "NothingToUndo", "NoVersion", "Rejected", "TooLarge", "TooManyEdits", "Unfit", "UnlikeAxes"] "at"]
def asks0 : List Ask := asks0_0 ++ (asks0_1 ++ (asks0_2))
def asks : List Ask := asks0
set_option maxHeartbeats 0 in
theorem run_a (w : World) : RunA (W.OpenLaw.row PySem.Challenge.rw_twobricks_k01_errors_and_bounds) 1500 30000 w tabs := by
  intro os
  kernel_rfl
set_option maxHeartbeats 0 in
theorem run_b (w : World) (os : OsState) : (endS (W.OpenLaw.row PySem.Challenge.rw_twobricks_k01_errors_and_bounds) 30000 w os).map (fun s => HandSHeadRun.seenQ (W.view (W.OpenLaw.row PySem.Challenge.rw_twobricks_k01_errors_and_bounds).prog [38]) loose (importedModules (W.OpenLaw.row PySem.Challenge.rw_twobricks_k01_errors_and_bounds).prog.main.body) (fun s => W.xlAt (W.view (W.OpenLaw.row PySem.Challenge.rw_twobricks_k01_errors_and_bounds).prog [38]) [] s && W.recOk (W.OpenLaw.row PySem.Challenge.rw_twobricks_k01_errors_and_bounds).toRowW.records s) s.abs) = some (W.openGood (W.view (W.OpenLaw.row PySem.Challenge.rw_twobricks_k01_errors_and_bounds).prog [38]) loose) := by
  kernel_rfl
set_option maxHeartbeats 0 in
theorem run_c0 (w : World) : RunC (W.OpenLaw.row PySem.Challenge.rw_twobricks_k01_errors_and_bounds) 1500 30000 w asks0 := by
  intro os
  kernel_rfl
set_option maxHeartbeats 0 in
theorem run_d0 (w : World) : RunD (W.OpenLaw.row PySem.Challenge.rw_twobricks_k01_errors_and_bounds) 1500 30000 w defs0 := by
  intro os
  kernel_rfl
theorem run (w : World) : HandSHeadRun.RunEq (W.OpenLaw.row PySem.Challenge.rw_twobricks_k01_errors_and_bounds) (W.view (W.OpenLaw.row PySem.Challenge.rw_twobricks_k01_errors_and_bounds).prog [38]) (DL.hookF 1500 defs asks tabs) (fun s => DL.obsF 1500 defs asks tabs (HandSHeadRun.getT s)) 30000 loose w := run_all (run_a w) (run_b w) (run_c0 w) (run_d0 w)
end K01
set_option Elab.async false
set_option linter.all false
set_option maxRecDepth 100000
set_option maxHeartbeats 4000000
namespace TW
open PySem PySem.Spec PyProof.Rows L2 DL

def BIG : Int := 2 ^ 4000
theorem BIG_ge : 10 ^ 60 ≤ BIG := by decide +kernel
def Pos (x : Int) : Prop := 1 ≤ x ∧ x ≤ BIG
theorem Pos.of {x : Int} (h : 1 ≤ x) (h1 : x ≤ 10 ^ 60) : Pos x := ⟨h, by have := BIG_ge; omega⟩

def gcdI (a b : Int) : Int := (Int.gcd a b : Nat)
def invGo : Nat → Int → Int → Int → Int → Int
  | 0, _, _, _, later => later
  | f + 1, left, right, now, later => if left > 0 then invGo f (right - right / left * left) left (later - right / left * now) now else later
def invF (a b : Int) : Int := invGo (a % b).toNat.succ (a % b) b 1 0 % b
def timesF (a b s : Int) : Option Int := if s % gcdI a b ≠ 0 then none else some (s / gcdI a b * invF (a / gcdI a b) (b / gcdI a b) % (b / gcdI a b))
def isSum (a b s : Int) : Bool := match timesF a b s with
  | some t => decide (a * t ≤ s)
  | none => false
end TW
set_option Elab.async false
set_option linter.all false
set_option maxRecDepth 100000
set_option maxHeartbeats 4000000
namespace TW
open PySem PySem.Spec PyProof.Rows L2 DL

mutual
def wgt : PyData → Nat
  | .none => 8
  | .bool _ => 8
  | .int i => i.natAbs.log2 + 9
  | .str x => (PyData.shown (.str x)).length
  | .list xs => wgtL xs + 4
  | .tuple xs => wgtL xs + 4
  | .dict _ => 4
def wgtL : List PyData → Nat
  | [] => 0
  | x :: xs => wgt x + 2 + wgtL xs
end
mutual
def okd (z : Bool) : PyData → Bool
  | .none => true
  | .bool _ => true
  | .int i => decide (i.natAbs.log2 < (if z = true then 1900 else 1800))
  | .str x => PyData.strOk x
  | .list xs => okdL z xs
  | .tuple xs => okdL z xs
  | .dict kvs => z && kvs.isEmpty
def okdL (z : Bool) : List PyData → Bool
  | [] => true
  | x :: xs => okd z x && okdL z xs
end
structure Shp (z : Bool) (n w : Nat) (d : PyData) : Prop where
  ok : okd z d = true
  dp : d.depth ≤ n
  wt : wgt d ≤ w
structure ShpL (z : Bool) (n w : Nat) (xs : List PyData) : Prop where
  ok : okdL z xs = true
  dp : PyData.depthAll xs ≤ n
  wt : wgtL xs ≤ w
theorem Shp.mono {z : Bool} {n m w v : Nat} {d : PyData} (h : Shp z n w d) (hn : n ≤ m) (hw : w ≤ v) : Shp z m v d := ⟨h.ok, Nat.le_trans h.dp hn, Nat.le_trans h.wt hw⟩
theorem ShpL.nil {z : Bool} {n : Nat} : ShpL z n 0 [] := ⟨by simp [okdL], by simp [PyData.depthAll], by simp [wgtL]⟩
theorem ShpL.cons {z : Bool} {n w v : Nat} {x : PyData} {xs : List PyData} (h : Shp z n w x) (t : ShpL z n v xs) : ShpL z n (w + 2 + v) (x :: xs) :=
  ⟨by simp [okdL, h.ok, t.ok], by have := h.dp; have := t.dp; simp [PyData.depthAll]; omega, by have := h.wt; have := t.wt; simp only [wgtL]; omega⟩
theorem ShpL.of {z : Bool} {n w : Nat} : ∀ {xs : List PyData}, (∀ x ∈ xs, Shp z n w x) → ShpL z n (xs.length * (w + 2)) xs
  | [], _ => by simpa using ShpL.nil
  | x :: xs, h => by
    have := ShpL.cons (h x (List.mem_cons_self ..)) (ShpL.of fun y hy => h y (List.mem_cons_of_mem _ hy))
    have e : w + 2 + xs.length * (w + 2) = (x :: xs).length * (w + 2) := by rw [List.length_cons, Nat.succ_mul]; omega
    rw [e] at this; exact this
theorem ShpL.map {α : Type} {z : Bool} {n w k : Nat} {as : List α} {f : α → PyData} (h : ∀ a ∈ as, Shp z n w (f a)) (hk : as.length ≤ k) : ShpL z n (k * (w + 2)) (as.map f) := by
  have := ShpL.of (xs := as.map f) (z := z) (n := n) (w := w) fun x hx => by
    obtain ⟨a, ha, rfl⟩ := List.mem_map.mp hx
    exact h a ha
  rw [List.length_map] at this
  exact ⟨this.ok, this.dp, Nat.le_trans this.wt (Nat.mul_le_mul_right _ hk)⟩
theorem ShpL.mono {z : Bool} {n m w v : Nat} {d : List PyData} (h : ShpL z n w d) (hn : n ≤ m) (hw : w ≤ v) : ShpL z m v d := ⟨h.ok, Nat.le_trans h.dp hn, Nat.le_trans h.wt hw⟩
theorem okdL_app {z : Bool} : ∀ (xs ys : List PyData), okdL z (xs ++ ys) = (okdL z xs && okdL z ys)
  | [], ys => by simp [okdL]
  | x :: xs, ys => by simp [okdL, okdL_app xs ys, Bool.and_assoc]
theorem depthAll_app : ∀ (xs ys : List PyData), PyData.depthAll (xs ++ ys) = max (PyData.depthAll xs) (PyData.depthAll ys)
  | [], ys => by simp [PyData.depthAll]
  | x :: xs, ys => by simp only [List.cons_append, PyData.depthAll, depthAll_app xs ys]; omega
theorem wgtL_app : ∀ (xs ys : List PyData), wgtL (xs ++ ys) = wgtL xs + wgtL ys
  | [], ys => by simp [wgtL]
  | x :: xs, ys => by simp [wgtL, wgtL_app xs ys]; omega
theorem ShpL.app {z : Bool} {n w v : Nat} {xs ys : List PyData} (h : ShpL z n w xs) (t : ShpL z n v ys) : ShpL z n (w + v) (xs ++ ys) :=
  ⟨by rw [okdL_app, h.ok, t.ok]; rfl, by rw [depthAll_app]; have := h.dp; have := t.dp; omega, by rw [wgtL_app]; have := h.wt; have := t.wt; omega⟩
theorem Shp.list {z : Bool} {n w : Nat} {xs : List PyData} (h : ShpL z n w xs) : Shp z (n + 1) (w + 4) (.list xs) :=
  ⟨by simp only [okd]; exact h.ok, by simp only [PyData.depth]; have := h.dp; omega, by simp only [wgt]; have := h.wt; omega⟩
theorem Shp.tuple {z : Bool} {n w : Nat} {xs : List PyData} (h : ShpL z n w xs) : Shp z (n + 1) (w + 4) (.tuple xs) :=
  ⟨by simp only [okd]; exact h.ok, by simp only [PyData.depth]; have := h.dp; omega, by simp only [wgt]; have := h.wt; omega⟩
theorem Shp.none {z : Bool} {n : Nat} : Shp z n 8 .none := ⟨by simp [okd], by simp [PyData.depth], by simp [wgt]⟩
theorem Shp.bool {z : Bool} {n : Nat} {b : Bool} : Shp z n 8 (.bool b) := ⟨by simp [okd], by simp [PyData.depth], by simp [wgt]⟩
theorem Shp.intB {z : Bool} {n k : Nat} {i : Int} (h : i.natAbs.log2 ≤ k) (hk : k < 1800) : Shp z n (k + 9) (.int i) := ⟨by simp [okd]; split <;> omega, by simp [PyData.depth], by simp [wgt]; omega⟩
theorem log_le {i : Int} {k : Nat} (h0 : -(2 ^ k) < i) (h1 : i < 2 ^ k) : i.natAbs.log2 ≤ k := by
  by_cases z : i = 0
  · subst z; simp
  · have e : ((2 ^ k : Nat) : Int) = 2 ^ k := by simp
    have : i.natAbs < 2 ^ k := by omega
    have := (Nat.log2_lt (by omega)).mpr this
    omega
theorem Shp.int64 {z : Bool} {n : Nat} {i : Int} (h0 : -(2 ^ 64) < i) (h1 : i < 2 ^ 64) : Shp z n 73 (.int i) := Shp.intB (log_le h0 h1) (by decide)
theorem Shp.str {z : Bool} {n w : Nat} {x : Str} (h : PyData.strOk x = true) (hw : (PyData.shown (.str x)).length ≤ w) : Shp z n w (.str x) := ⟨by simp [okd, h], by simp [PyData.depth], by simp only [wgt]; exact hw⟩
theorem Shp.up {n w : Nat} {d : PyData} (h : Shp false n w d) : Shp true n w d := by
  have a : ∀ xs : List PyData, (∀ x ∈ xs, okd false x = true → okd true x = true) → okdL false xs = true → okdL true xs = true := by
    intro xs
    induction xs with
    | nil => intros; simp [okdL]
    | cons x xs ih =>
      intro h k
      simp only [okdL, Bool.and_eq_true] at k ⊢
      exact ⟨h x (List.mem_cons_self ..) k.1, ih (fun y hy => h y (List.mem_cons_of_mem _ hy)) k.2⟩
  refine ⟨?_, h.dp, h.wt⟩
  have := h.ok
  clear h
  revert this
  exact PyData.rec (motive_1 := fun d => okd false d = true → okd true d = true) (motive_2 := fun xs => okdL false xs = true → okdL true xs = true) (motive_3 := fun _ => True) (motive_4 := fun _ => True)
    (by simp [okd]) (by simp [okd]) (fun i h => by simp [okd] at h ⊢; omega) (by simp [okd]) (fun xs ih h => by simp only [okd] at h ⊢; exact ih h) (fun xs ih h => by simp only [okd] at h ⊢; exact ih h) (fun kvs _ h => by simp [okd] at h)
    (by simp [okdL]) (fun x xs h1 h2 h => by simp only [okdL, Bool.and_eq_true] at h ⊢; exact ⟨h1 h.1, h2 h.2⟩) trivial (fun _ _ _ _ => trivial) (fun _ _ _ _ => trivial) d

theorem okd_lay {z : Bool} (hz : z = false) (d : PyData) : okd z d = true → d.canLay0 = true := by
  subst hz
  exact PyData.rec (motive_1 := fun d => okd false d = true → d.canLay0 = true) (motive_2 := fun xs => okdL false xs = true → PyData.canLayAll0 xs = true) (motive_3 := fun _ => True) (motive_4 := fun _ => True)
    (by simp [PyData.canLay0]) (by simp [PyData.canLay0]) (by simp [PyData.canLay0]) (by simp [okd, PyData.canLay0]) (fun xs ih h => by simp only [okd] at h; simp only [PyData.canLay0]; exact ih h) (fun xs ih h => by simp only [okd] at h; simp only [PyData.canLay0]; exact ih h) (fun kvs _ h => by simp [okd] at h)
    (by simp [PyData.canLayAll0]) (fun x xs h1 h2 h => by simp only [okdL, Bool.and_eq_true] at h; simp only [PyData.canLayAll0, Bool.and_eq_true]; exact ⟨h1 h.1, h2 h.2⟩) trivial (fun _ _ _ _ => trivial) (fun _ _ _ _ => trivial) d
theorem okd_show {z : Bool} (d : PyData) : okd z d = true → d.showable = true := by
  exact PyData.rec (motive_1 := fun d => okd z d = true → d.showable = true) (motive_2 := fun xs => okdL z xs = true → PyData.showableAll xs = true) (motive_3 := fun _ => True) (motive_4 := fun _ => True)
    (by simp [PyData.showable]) (by simp [PyData.showable]) (fun i h => by simp only [okd, decide_eq_true_eq] at h; simp only [PyData.showable, decide_eq_true_eq]; split at h <;> omega) (by simp [PyData.showable]) (fun xs ih h => by simp only [okd] at h; simp only [PyData.showable]; exact ih h) (fun xs ih h => by simp only [okd] at h; simp only [PyData.showable]; exact ih h)
    (fun kvs _ h => by
      simp only [okd, Bool.and_eq_true] at h
      have : kvs = [] := by simpa using h.2
      subst this
      simp [PyData.showable, PyData.showableKv])
    (by simp [PyData.showableAll]) (fun x xs h1 h2 h => by simp only [okdL, Bool.and_eq_true] at h; simp only [PyData.showableAll, Bool.and_eq_true]; exact ⟨h1 h.1, h2 h.2⟩) trivial (fun _ _ _ _ => trivial) (fun _ _ _ _ => trivial) d
def lens (xs : List PyData) : Nat := (xs.map fun x => x.shown.length + 2).sum
theorem piled_lens : ∀ xs : List PyData, piled (xs.map PyData.shown) = lens xs
  | [] => by simp [piled, lens]
  | x :: xs => by
    have := piled_lens xs
    simp only [List.map_cons, piled, lens, List.sum_cons] at *
    omega
theorem textFrom_lens : ∀ (xs : List PyData) (k : Nat) (acc : Str), (textFrom k acc (xs.map PyData.shown)).length ≤ acc.length + lens xs
  | [], k, acc => by simp [textFrom, lens]
  | x :: r, k, acc => by
    have ih := textFrom_lens r (k + 1) (acc ++ (if k > 0 then ", " else "" : String) ++ x.shown)
    have e : (acc ++ (if k > 0 then ", " else "" : String) ++ x.shown).length ≤ acc.length + 2 + x.shown.length := by
      rw [strLen_append, strLen_append]
      split
      · have : ((", " : String) : Str).length = 2 := rfl
        omega
      · have : (("" : String) : Str).length = 0 := rfl
        omega
    show (textFrom (k + 1) _ (r.map PyData.shown)).length ≤ _
    simp only [lens, List.map_cons, List.sum_cons] at ih ⊢
    omega
theorem okd_len {z : Bool} (d : PyData) : okd z d = true → d.shown.length ≤ wgt d := by
  refine PyData.rec (motive_1 := fun d => okd z d = true → d.shown.length ≤ wgt d) (motive_2 := fun xs => okdL z xs = true → lens xs ≤ wgtL xs) (motive_3 := fun _ => True) (motive_4 := fun _ => True)
    ?_ ?_ ?_ ?_ ?_ ?_ ?_ ?_ ?_ trivial (fun _ _ _ _ => trivial) (fun _ _ _ _ => trivial) d
  · intro _; simp only [PyData.shown, wgt]; decide
  · intro b _; cases b <;> (simp only [PyData.shown, wgt]; decide)
  · intro i h
    have := int_text_length_le (show 0 < i.natAbs.log2 + 1 by omega) (show i.natAbs.log2 < i.natAbs.log2 + 1 by omega)
    simp only [PyData.shown, wgt]
    show (Str.ofString (toString i)).length ≤ _
    rw [PySem.ofString_length]
    omega
  · intro x _; simp only [wgt]; exact Nat.le_refl _
  · intro xs ih h
    have ih := ih (by simpa only [okd] using h)
    simp only [PyData.shown, shownAll_map, wgt]
    unfold listText
    rw [strLen_append]
    have q := textFrom_lens xs 0 "["
    have e1 : (("[" : String) : Str).length = 1 := rfl
    have e2 : (("]" : String) : Str).length = 1 := rfl
    omega
  · intro xs ih h
    have ih := ih (by simpa only [okd] using h)
    simp only [PyData.shown, shownAll_map, wgt]
    unfold tupleText
    rw [strLen_append, strLen_append]
    have e1 : (("(" : String) : Str).length = 1 := rfl
    have e2 : ((if (xs.map PyData.shown).length == 1 then ",)" else ")" : String) : Str).length ≤ 2 := by split <;> decide
    have j : (Str.join ", " (xs.map PyData.shown)).length ≤ piled (xs.map PyData.shown) := by
      by_cases z : xs.map PyData.shown = []
      · rw [z]; decide
      · have := join_length_add _ z; omega
    rw [piled_lens] at j
    omega
  · intro kvs _ h
    simp only [okd, Bool.and_eq_true] at h
    have : kvs = [] := by simpa using h.2
    subst this
    simp only [PyData.shown, wgt]
    decide
  · intro _; simp [lens, wgtL]
  · intro x xs h1 h2 h
    simp only [okdL, Bool.and_eq_true] at h
    have h1 := h1 h.1
    have h2 := h2 h.2
    simp only [lens, List.map_cons, List.sum_cons, wgtL] at *
    omega
theorem Shp.shaped {n w : Nat} {d : PyData} (h : Shp false n w d) (hn : n ≤ 60 := by decide) : SeqAt.shaped d = true := by
  have := okd_lay rfl d h.ok
  simp only [SeqAt.shaped, this, Bool.true_and, decide_eq_true_eq]
  have := h.dp
  omega
theorem Shp.repr {z : Bool} {n w : Nat} {d : PyData} {X : Prop} (h : Shp z n w d) (k : X) (hn : n ≤ 60 := by decide) (hw : w ≤ 16000000 := by decide) : d.showable = true ∧ d.depth ≤ 60 ∧ d.shown.length ≤ 16000000 ∧ X :=
  ⟨okd_show d h.ok, Nat.le_trans h.dp hn, Nat.le_trans (okd_len d h.ok) (Nat.le_trans h.wt hw), k⟩
theorem eqv_refl' {n w : Nat} {d : PyData} (h : Shp false n w d) : PyData.eqv d d = true := SeqAt.eqv_refl d (okd_lay rfl d h.ok)
theorem okdL_iff {z : Bool} : ∀ {xs : List PyData}, okdL z xs = true ↔ ∀ x ∈ xs, okd z x = true
  | [] => by simp [okdL]
  | x :: xs => by simp [okdL, okdL_iff (xs := xs)]
theorem depthL_iff {n : Nat} : ∀ {xs : List PyData}, PyData.depthAll xs ≤ n ↔ ∀ x ∈ xs, x.depth ≤ n
  | [] => by simp [PyData.depthAll]
  | x :: xs => by
    simp only [PyData.depthAll, List.forall_mem_cons, ← depthL_iff (xs := xs)]
    omega
theorem wgtL_mem : ∀ {xs : List PyData} {x : PyData}, x ∈ xs → wgt x + 2 ≤ wgtL xs
  | y :: ys, x, h => by
    simp only [wgtL]
    rcases List.mem_cons.mp h with rfl | h
    · omega
    · have := wgtL_mem h; omega
theorem wgtL_take : ∀ (xs : List PyData) (n : Nat), wgtL (xs.take n) ≤ wgtL xs
  | [], n => by simp
  | x :: xs, 0 => by simp [wgtL]
  | x :: xs, n + 1 => by have := wgtL_take xs n; simp only [List.take_succ_cons, wgtL]; omega
theorem wgtL_drop : ∀ (xs : List PyData) (n : Nat), wgtL (xs.drop n) ≤ wgtL xs
  | [], n => by simp
  | x :: xs, 0 => by simp
  | x :: xs, n + 1 => by have := wgtL_drop xs n; simp only [List.drop_succ_cons, wgtL]; omega
theorem ShpL.part {z : Bool} {n w : Nat} {xs ys : List PyData} (h : ShpL z n w xs) (hm : ∀ y ∈ ys, y ∈ xs) (hw : wgtL ys ≤ wgtL xs) : ShpL z n w ys :=
  ⟨okdL_iff.mpr fun y hy => okdL_iff.mp h.ok y (hm y hy), depthL_iff.mpr fun y hy => depthL_iff.mp h.dp y (hm y hy), Nat.le_trans hw h.wt⟩
theorem ShpL.take {z : Bool} {n w : Nat} {xs : List PyData} (h : ShpL z n w xs) (k : Nat) : ShpL z n w (xs.take k) := h.part (fun _ hy => List.mem_of_mem_take hy) (wgtL_take _ _)
theorem ShpL.drop {z : Bool} {n w : Nat} {xs : List PyData} (h : ShpL z n w xs) (k : Nat) : ShpL z n w (xs.drop k) := h.part (fun _ hy => List.mem_of_mem_drop hy) (wgtL_drop _ _)
theorem ShpL.cut {z : Bool} {n w : Nat} {xs : List PyData} (h : ShpL z n w xs) (lo hi : Option Int) : ShpL z n w (DL.cutD xs lo hi) := by
  unfold DL.cutD
  exact (h.drop _).take _
theorem ShpL.mem {z : Bool} {n w : Nat} {xs : List PyData} (h : ShpL z n w xs) {x : PyData} (hx : x ∈ xs) : Shp z n w x :=
  ⟨okdL_iff.mp h.ok x hx, depthL_iff.mp h.dp x hx, by have := wgtL_mem hx; have := h.wt; omega⟩
theorem Shp.items {z : Bool} {n w : Nat} {xs : List PyData} (h : Shp z (n + 1) w (.tuple xs)) : ShpL z n w xs :=
  ⟨by have := h.ok; simpa only [okd] using this, by have := h.dp; simp only [PyData.depth] at this; omega, by have := h.wt; simp only [wgt] at this; omega⟩
theorem Shp.pos {z : Bool} {n w : Nat} {xs : List PyData} (h : Shp z n w (.tuple xs)) : ∃ m, n = m + 1 := by
  have := h.dp
  simp only [PyData.depth] at this
  exact ⟨n - 1, by omega⟩
theorem ShpL.up {n w : Nat} {xs : List PyData} (h : ShpL false n w xs) : ShpL true n w xs :=
  ⟨okdL_iff.mpr fun x hx => (Shp.up (h.mem hx)).ok, h.dp, h.wt⟩
theorem Shp.text {z : Bool} {n k : Nat} {x : Str} (h : PyData.strOk x = true) (hk : x.length ≤ k) : Shp z n (10 * k + 2) (.str x) := by
  refine Shp.str h ?_
  have h2 : ∀ c ∈ x.cps.toList, c < 16 ^ 8 := fun c hc => by
    unfold PyData.strOk at h
    rw [← Array.all_toList, List.all_eq_true] at h
    have := h c hc
    simp only [decide_eq_true_eq] at this
    omega
  have := StrLaws.reprText_len x h2
  simp only [PyData.shown]
  omega
end TW
set_option Elab.async false
set_option linter.all false
set_option maxRecDepth 100000
set_option maxHeartbeats 4000000
namespace TW
open PySem PySem.Spec PyProof.Rows L2 DL

abbrev lI (ns : List Int) : List PyData := ns.map PyData.int
abbrev tI (ns : List Int) : PyData := .tuple (lI ns)
abbrev prD (a b : List Int) : PyData := .tuple [tI a, tI b]
def gi (ns : List Int) (i : Nat) : Int := ns[i]?.getD 1
theorem gi_at {ns : List Int} {i : Nat} (h : i < ns.length) : ns[i]? = some (gi ns i) := by
  unfold gi; rw [List.getElem?_eq_getElem h]; rfl
theorem gi_mem {ns : List Int} {i : Nat} (h : i < ns.length) : gi ns i ∈ ns := by
  have := gi_at h
  exact List.mem_of_getElem? this
@[simp] theorem gi_cons0 (x : Int) (xs : List Int) : gi (x :: xs) 0 = x := rfl
@[simp] theorem gi_consS (x : Int) (xs : List Int) (i : Nat) : gi (x :: xs) (i + 1) = gi xs i := by simp [gi]
@[simp] theorem gi_cons1 (x : Int) (xs : List Int) : gi (x :: xs) 1 = gi xs 0 := by simp [gi]
theorem nums_succ (lo : Int) (n : Nat) : nums lo (n + 1) = .int lo :: nums (lo + 1) n := by
  rw [nums_map, nums_map, List.range_succ_eq_map, List.map_cons, List.map_map]
  congr 1
  · simp
  · apply List.map_congr_left; intro i _; simp; omega
theorem for_cntZ {g : DTG} {b : DTS} {δ : DS} {E : DEnds} {u : Stop E} (lo : Int) (n : Nat) (P : Nat → DS → Prop) (Q : DS → Prop) (Z : PyData → DS → Prop) (h : P 0 δ) (h0 : ∀ δ, P n δ → E.nx δ) (hq : ∀ δ, Q δ → E.nx δ) (hz : ∀ x δ, Z x δ → E.rt x δ)
    (hs : ∀ i δ, i < n → P i δ → ∀ (K B : DS → Prop) (T : PyData → DS → Prop), (∀ δ', P (i + 1) δ' → K δ') → (∀ δ', Q δ' → B δ') → (∀ x δ', Z x δ' → T x δ') → g (.int (lo + (i : Int))) δ fun δ1 => b { nx := K, rt := T, bk := B, ct := K } δ1) : forC g b (nums lo n) δ E u := by
  refine for_inv (fun xs δ => ∃ i, i ≤ n ∧ xs = nums (lo + (i : Int)) (n - i) ∧ P i δ) Q Z ⟨0, by omega, by simp, h⟩ ?_ hq hz ?_
  · rintro δ ⟨i, hi, hx, hp⟩
    have : i = n := by
      have := congrArg List.length hx
      simp [nums] at this; omega
    subst this
    exact h0 δ hp
  · rintro x xs δ ⟨i, hi, hx, hp⟩ K B T hK hB hT
    have hlt : i < n := by
      have := congrArg List.length hx
      simp [nums] at this; omega
    rw [show n - i = (n - i - 1) + 1 by omega, nums_succ, List.cons.injEq] at hx
    obtain ⟨rfl, rfl⟩ := hx
    refine hs i δ hlt hp K B T (fun δ' hp' => hK δ' ⟨i + 1, by omega, ?_, hp'⟩) hB hT
    congr 1
    omega
theorem for_cnt {g : DTG} {b : DTS} {δ : DS} {E : DEnds} {u : Stop E} (lo : Int) (n : Nat) (P : Nat → DS → Prop) (h : P 0 δ) (h0 : ∀ δ, P n δ → E.nx δ)
    (hs : ∀ i δ, i < n → P i δ → ∀ (K B : DS → Prop) (T : PyData → DS → Prop), (∀ δ', P (i + 1) δ' → K δ') → g (.int (lo + (i : Int))) δ fun δ1 => b { nx := K, rt := T, bk := B, ct := K } δ1) : forC g b (nums lo n) δ E u :=
  for_cntZ lo n P (fun _ => False) (fun _ _ => False) h h0 (fun _ h => h.elim) (fun _ _ h => h.elim) fun i δ hi hp K B T hK _ _ => hs i δ hi hp K B T hK
theorem for_stay {g : DTG} {b : DTS} {δ : DS} {E : DEnds} {u : Stop E} {xs : List PyData} (P : DS → Prop) (h : P δ) (h0 : ∀ δ, P δ → E.nx δ)
    (hs : ∀ x ∈ xs, ∀ δ, P δ → ∀ (K B : DS → Prop) (T : PyData → DS → Prop), (∀ δ', P δ' → K δ') → g x δ fun δ1 => b { nx := K, rt := T, bk := B, ct := K } δ1) : forC g b xs δ E u :=
  for_inv (fun ys δ => (∀ y ∈ ys, y ∈ xs) ∧ P δ) (fun _ => False) (fun _ _ => False) ⟨fun _ h => h, h⟩ (fun δ h => h0 δ h.2) (fun _ h => h.elim) (fun _ _ h => h.elim) fun x ys δ h K B T hK _ _ =>
    hs x (h.1 x (List.mem_cons_self ..)) δ h.2 K B T fun δ' hp => hK δ' ⟨fun y hy => h.1 y (List.mem_cons_of_mem _ hy), hp⟩
def gd (ds : List PyData) (i : Nat) : PyData := ds[i]?.getD .none
end TW
set_option Elab.async false
set_option linter.all false
set_option maxRecDepth 100000
set_option maxHeartbeats 4000000
namespace TW
open PySem PySem.Spec PyProof.Rows L2 DL
def optI : Option Int → PyData
  | some x => .int x
  | none => .none
@[simp] theorem optI_some (x : Int) : optI (some x) = .int x := rfl
@[simp] theorem optI_none : optI none = .none := rfl
structure PB (a b bx : List Int) : Prop where
  la : a.length = bx.length
  lb : b.length = bx.length
  l0 : 0 < bx.length
  l1 : bx.length ≤ 10
  pa : ∀ x ∈ a, Pos x
  pb : ∀ x ∈ b, Pos x
  px : ∀ x ∈ bx, Pos x
end TW
set_option Elab.async false
set_option linter.all false
set_option maxRecDepth 100000
set_option maxHeartbeats 4000000
namespace TW
open PySem PySem.Spec PyProof.Rows L2 DL
theorem PB.at {a b bx : List Int} (h : PB a b bx) {i : Nat} (hi : i < bx.length) : a[i]? = some (gi a i) ∧ b[i]? = some (gi b i) ∧ bx[i]? = some (gi bx i) ∧ Pos (gi a i) ∧ Pos (gi b i) ∧ Pos (gi bx i) :=
  have ha : i < a.length := by have := h.la; omega
  have hb : i < b.length := by have := h.lb; omega
  ⟨gi_at ha, gi_at hb, gi_at hi, h.pa _ (gi_mem ha), h.pb _ (gi_mem hb), h.px _ (gi_mem hi)⟩
end TW
set_option Elab.async false
set_option linter.all false
set_option maxRecDepth 100000
set_option maxHeartbeats 4000000
namespace TW
open PySem PySem.Spec PyProof.Rows L2 DL
abbrev sp_Ldeck : DSpM := spDeck
abbrev sp_Ldraw : DSp := spDraw
def In (m : Int) (ns : List Int) : Prop := ∀ x ∈ ns, 1 ≤ x ∧ x ≤ m
def sp_Lone : DSp := fun cs R => ∃ a b c d xs, cs = [.dk a b c, .d d] ∧ seqOf d = some xs ∧ 0 < xs.length ∧ xs.length ≤ 1000000 ∧ ∀ x ∈ xs, R x [.dk a b c, .d d]
def IsPlainBox (p ns : List Int) (m : Int) : Prop := ns.length = p.length ∧ ∀ i, i < p.length → ∃ k, 1 ≤ k ∧ k ≤ m ∧ gi ns i = gi p i * k
structure Pr (p q : List Int) : Prop where
  l : q.length = p.length
  l0 : 0 < p.length
  l1 : p.length ≤ 10
  p : ∀ x ∈ p, 1 ≤ x ∧ x < 2 ^ 60
  q : ∀ x ∈ q, 1 ≤ x ∧ x < 2 ^ 60
def vol (ns : List Int) : Int := ns.foldl (fun a b => a * b) 1
def w_Lone : DTS := (wRet (wOp pIx (wVar 1) (wCall [true, false] sp_Ldraw (wCons (wVar 0) (wCons (wFn pLen (wCons (wVar 1) wNil)) wNil)))))
theorem ln_Lone : ∀ cs R, sp_Lone cs R → cs.length = 2 := by
  intro cs R h
  unfold sp_Lone at h
  repeat (obtain ⟨_, h⟩ := h)
  subst_vars; rfl
end TW
set_option Elab.async false
set_option linter.all false
set_option maxRecDepth 100000
set_option maxHeartbeats 4000000
namespace TW
open PySem PySem.Spec PyProof.Rows L2 DL
theorem rd_Lone : ∀ cs R, sp_Lone cs R → w_Lone (endsOf cs R) (start0 2 cs) := by
  rintro _ R ⟨a, b, c, d, xs, rfl, hd, h0, h1, hR⟩
  cases d with
  | list ds =>
    cases hd
    simp -implicitDefEqProofs -dsimp [w_Lone]
    refine ask_draw (by omega) (by omega) fun r q0 q1 => ?_
    (try simp -implicitDefEqProofs -dsimp)
    obtain ⟨z, hz, e⟩ := atI_ex (xs := xs) q0 q1
    exact onS_of e (by simp -implicitDefEqProofs -dsimp; exact hR z hz)
  | tuple ds =>
    cases hd
    simp -implicitDefEqProofs -dsimp [w_Lone]
    refine ask_draw (by omega) (by omega) fun r q0 q1 => ?_
    (try simp -implicitDefEqProofs -dsimp)
    obtain ⟨z, hz, e⟩ := atI_ex (xs := xs) q0 q1
    exact onS_of e (by simp -implicitDefEqProofs -dsimp; exact hR z hz)
  | _ => cases hd
theorem In.set {m y : Int} {ns : List Int} {n : Nat} (h : In m ns) (h0 : 1 ≤ y) (h1 : y ≤ m) : In m (ns.set n y) := fun x hx => by
  rcases List.mem_or_eq_of_mem_set hx with q | q
  · exact h x q
  · subst q; exact ⟨h0, h1⟩
theorem Pr.at {p q : List Int} (h : Pr p q) {i : Nat} (hi : i < p.length) : p[i]? = some (gi p i) ∧ q[i]? = some (gi q i) ∧ (1 ≤ gi p i ∧ gi p i < 2 ^ 60) ∧ (1 ≤ gi q i ∧ gi q i < 2 ^ 60) :=
  have hj : i < q.length := by have := h.l; omega
  ⟨gi_at hi, gi_at hj, h.p _ (gi_mem hi), h.q _ (gi_mem hj)⟩
theorem IsPlainBox.of {p ns : List Int} {m : Int} (hl : ns.length = p.length) (h : ∀ i, i < p.length → ∃ k, 1 ≤ k ∧ k ≤ m ∧ gi ns i = gi p i * k) : IsPlainBox p ns m := ⟨hl, h⟩
theorem vol_cons (x : Int) (xs : List Int) : vol (x :: xs) = x * vol xs := by
  unfold vol
  have : ∀ (l : List Int) (y z : Int), l.foldl (fun a b => a * b) (y * z) = y * l.foldl (fun a b => a * b) z := by
    intro l
    induction l with
    | nil => intros; rfl
    | cons w l ih => intro y z; simp only [List.foldl_cons]; rw [Int.mul_assoc, ih]
  rw [List.foldl_cons, Int.one_mul, ← this xs x 1, Int.mul_one]
theorem vol_pos : ∀ {ns : List Int}, (∀ x ∈ ns, 1 ≤ x) → 1 ≤ vol ns
  | [], _ => by simp [vol]
  | x :: xs, h => by
    have a := h x (List.mem_cons_self ..)
    have b := vol_pos fun y hy => h y (List.mem_cons_of_mem _ hy)
    rw [vol_cons]
    have := Int.mul_le_mul a b (by omega) (by omega)
    omega
end TW
set_option Elab.async false
set_option linter.all false
set_option maxRecDepth 100000
set_option maxHeartbeats 4000000
namespace TW
open PySem PySem.Spec PyProof.Rows L2 DL
def Fill (a b bx : List Int) : Prop := (∀ i, i < bx.length → gi a i ∣ gi bx i) ∨ (∀ i, i < bx.length → gi b i ∣ gi bx i) ∨
  ∃ ax, ax < bx.length ∧ (∀ i, i < bx.length → i ≠ ax → gi a i ∣ gi bx i ∧ gi b i ∣ gi bx i) ∧ isSum (gi a ax) (gi b ax) (gi bx ax) = true
end TW
set_option Elab.async false
set_option linter.all false
set_option maxRecDepth 100000
set_option maxHeartbeats 4000000
namespace TW
open PySem PySem.Spec PyProof.Rows L2 DL
def CellsOk (ns : List Int) : Prop := (∀ x ∈ ns, 0 ≤ x) ∧ ∀ k, k ≤ ns.length → vol (ns.take k) ≤ 1000000
end TW
set_option Elab.async false
set_option linter.all false
set_option maxRecDepth 100000
set_option maxHeartbeats 4000000
namespace TW
open PySem PySem.Spec PyProof.Rows L2 DL
theorem vol_pre {as bs : List Int} (h : ∀ x ∈ as ++ bs, 1 ≤ x) : vol as ≤ vol (as ++ bs) := by
  have e : vol (as ++ bs) = vol as * vol bs := by
    induction as with
    | nil => rw [List.nil_append]; show _ = 1 * _; omega
    | cons a as ih =>
      rw [List.cons_append, vol_cons, vol_cons, ih fun x hx => h x (by simp at hx ⊢; exact .inr hx), Int.mul_assoc]
  rw [e]
  have a1 := vol_pos (ns := as) fun x hx => h x (by simp [hx])
  have b1 := vol_pos (ns := bs) fun x hx => h x (by simp [hx])
  have := Int.mul_le_mul_of_nonneg_left b1 (show 0 ≤ vol as by omega)
  omega
theorem CellsOk.of {ns : List Int} (h1 : ∀ x ∈ ns, 1 ≤ x) (h2 : vol ns ≤ 1000000) : CellsOk ns := ⟨fun x hx => by have := h1 x hx; omega, fun k _ => by
  have := vol_pre (as := ns.take k) (bs := ns.drop k) fun x hx => h1 x (by rwa [List.take_append_drop] at hx)
  rw [List.take_append_drop] at this
  omega⟩
end TW
set_option Elab.async false
set_option linter.all false
set_option maxRecDepth 100000
set_option maxHeartbeats 4000000
namespace TW
open PySem PySem.Spec PyProof.Rows L2 DL
def oddL : List PyData := [.none, .bool true, .bool false, .int 0, .int 1, .int 2, .int (-1), .int (10 ^ 30), .str "", .str "a", .str "0", .str "2x3", .tuple [], .list [], .dict [], .tuple [.int 0], .tuple [.int 1], .tuple [.int 0, .int 0], .tuple [.int 1, .int 1],
  .tuple [.bool true], .tuple [.int 0, .tuple [.int 0]], .tuple [.int 0, .tuple [.int 0, .int 0]], .tuple [.int 1, .tuple [.int 0, .int 0]], .tuple [.int 0, .tuple [.int 0, .int 0], .int 1], .tuple [.tuple [.int 0, .int 0], .int 1], .tuple [.tuple [.int 0], .int 1], .tuple [.str "step", .int 0],
  .tuple [.none], .tuple [.int (-1)], .tuple [.int 0, .tuple [.int (-1)]], .tuple [.int 0, .tuple [.bool true, .int 0]], .tuple [.int 2, .int 1], .tuple [.tuple [.int 2, .int 1], .tuple [.int 1, .int 2]], .tuple [.tuple [.int 2], .tuple [.int 3]]]
def sp_Lodd : DSp := fun cs R => ∃ a b c, cs = [.dk a b c] ∧ ∀ x ∈ oddL, R x [.dk a b c]
def w_Lodd_s1 : DTS := (wRet (wCall [true, false] sp_Lone (wCons (wVar 0) (wCons (wOp pAddB (wVar 1) (wOfL (wLst (wCons (wTup (wCons (wC .none) wNil)) (wCons (wTup (wCons (wUn pNeg (wC (.int 1))) wNil)) (wCons (wTup (wCons (wC (.int 0)) (wCons (wTup (wCons (wUn pNeg (wC (.int 1))) wNil)) wNil))) (wCons (wTup (wCons (wC (.int 0)) (wCons (wTup (wCons (wC (.bool true)) (wCons (wC (.int 0)) wNil))) wNil))) (wCons (wTup (wCons (wC (.int 2)) (wCons (wC (.int 1)) wNil))) (wCons (wTup (wCons (wTup (wCons (wC (.int 2)) (wCons (wC (.int 1)) wNil))) (wCons (wTup (wCons (wC (.int 1)) (wCons (wC (.int 2)) wNil))) wNil))) (wCons (wTup (wCons (wTup (wCons (wC (.int 2)) wNil)) (wCons (wTup (wCons (wC (.int 3)) wNil)) wNil))) wNil)))))))))) wNil))))
@[simp ↓] theorem w_Lodd_s1_ap (E : DEnds) (δ : DS) : w_Lodd_s1 E δ = (wRet (wCall [true, false] sp_Lone (wCons (wVar 0) (wCons (wOp pAddB (wVar 1) (wOfL (wLst (wCons (wTup (wCons (wC .none) wNil)) (wCons (wTup (wCons (wUn pNeg (wC (.int 1))) wNil)) (wCons (wTup (wCons (wC (.int 0)) (wCons (wTup (wCons (wUn pNeg (wC (.int 1))) wNil)) wNil))) (wCons (wTup (wCons (wC (.int 0)) (wCons (wTup (wCons (wC (.bool true)) (wCons (wC (.int 0)) wNil))) wNil))) (wCons (wTup (wCons (wC (.int 2)) (wCons (wC (.int 1)) wNil))) (wCons (wTup (wCons (wTup (wCons (wC (.int 2)) (wCons (wC (.int 1)) wNil))) (wCons (wTup (wCons (wC (.int 1)) (wCons (wC (.int 2)) wNil))) wNil))) (wCons (wTup (wCons (wTup (wCons (wC (.int 2)) wNil)) (wCons (wTup (wCons (wC (.int 3)) wNil)) wNil))) wNil)))))))))) wNil)))) E δ := rfl
def w_Lodd_s2 : DTS := (wSeq (wSet 1 (mE (wOp pAddB (wVar 1) (wOfL (wLst (wCons (wTup (wCons (wC (.bool true)) wNil)) (wCons (wTup (wCons (wC (.int 0)) (wCons (wTup (wCons (wC (.int 0)) wNil)) wNil))) (wCons (wTup (wCons (wC (.int 0)) (wCons (wTup (wCons (wC (.int 0)) (wCons (wC (.int 0)) wNil))) wNil))) (wCons (wTup (wCons (wC (.int 1)) (wCons (wTup (wCons (wC (.int 0)) (wCons (wC (.int 0)) wNil))) wNil))) (wCons (wTup (wCons (wC (.int 0)) (wCons (wTup (wCons (wC (.int 0)) (wCons (wC (.int 0)) wNil))) (wCons (wC (.int 1)) wNil)))) (wCons (wTup (wCons (wTup (wCons (wC (.int 0)) (wCons (wC (.int 0)) wNil))) (wCons (wC (.int 1)) wNil))) (wCons (wTup (wCons (wTup (wCons (wC (.int 0)) wNil)) (wCons (wC (.int 1)) wNil))) (wCons (wTup (wCons (wC (.str "step")) (wCons (wC (.int 0)) wNil))) wNil))))))))))))) w_Lodd_s1)
@[simp ↓] theorem w_Lodd_s2_ap (E : DEnds) (δ : DS) : w_Lodd_s2 E δ = (wSeq (wSet 1 (mE (wOp pAddB (wVar 1) (wOfL (wLst (wCons (wTup (wCons (wC (.bool true)) wNil)) (wCons (wTup (wCons (wC (.int 0)) (wCons (wTup (wCons (wC (.int 0)) wNil)) wNil))) (wCons (wTup (wCons (wC (.int 0)) (wCons (wTup (wCons (wC (.int 0)) (wCons (wC (.int 0)) wNil))) wNil))) (wCons (wTup (wCons (wC (.int 1)) (wCons (wTup (wCons (wC (.int 0)) (wCons (wC (.int 0)) wNil))) wNil))) (wCons (wTup (wCons (wC (.int 0)) (wCons (wTup (wCons (wC (.int 0)) (wCons (wC (.int 0)) wNil))) (wCons (wC (.int 1)) wNil)))) (wCons (wTup (wCons (wTup (wCons (wC (.int 0)) (wCons (wC (.int 0)) wNil))) (wCons (wC (.int 1)) wNil))) (wCons (wTup (wCons (wTup (wCons (wC (.int 0)) wNil)) (wCons (wC (.int 1)) wNil))) (wCons (wTup (wCons (wC (.str "step")) (wCons (wC (.int 0)) wNil))) wNil))))))))))))) w_Lodd_s1) E δ := rfl
def w_Lodd : DTS := (wSeq (wSet 1 (mE (wOfL (wLst (wCons (wC .none) (wCons (wC (.bool true)) (wCons (wC (.bool false)) (wCons (wC (.int 0)) (wCons (wC (.int 1)) (wCons (wC (.int 2)) (wCons (wUn pNeg (wC (.int 1))) (wCons (wOp pPow (wC (.int 10)) (wC (.int 30))) (wCons (wC (.str "")) (wCons (wC (.str "a")) (wCons (wC (.str "0")) (wCons (wC (.str "2x3")) (wCons (wTup wNil) (wCons (wOfL (wLst wNil)) (wCons wDic (wCons (wTup (wCons (wC (.int 0)) wNil)) (wCons (wTup (wCons (wC (.int 1)) wNil)) (wCons (wTup (wCons (wC (.int 0)) (wCons (wC (.int 0)) wNil))) (wCons (wTup (wCons (wC (.int 1)) (wCons (wC (.int 1)) wNil))) wNil))))))))))))))))))))))) w_Lodd_s2)
theorem ln_Lodd : ∀ cs R, sp_Lodd cs R → cs.length = 1 := by
  intro cs R h
  unfold sp_Lodd at h
  repeat (obtain ⟨_, h⟩ := h)
  subst_vars; rfl
end TW
set_option Elab.async false
set_option linter.all false
set_option maxRecDepth 100000
set_option maxHeartbeats 4000000
namespace TW
open PySem PySem.Spec PyProof.Rows L2 DL
@[simp] theorem isTy_int_i (i : Int) : isTy "int" (.int i) = true := by rw [isTy, tyName]; decide
@[simp] theorem isTy_int_b (i : Bool) : isTy "int" (.bool i) = true := by rw [isTy, tyName]; decide
@[simp] theorem isTy_int_n : isTy "int" .none = false := by rw [isTy, tyName]; decide
@[simp] theorem isTy_int_s (i : Str) : isTy "int" (.str i) = false := by rw [isTy, tyName]; decide
@[simp] theorem isTy_int_l (i : List PyData) : isTy "int" (.list i) = false := by rw [isTy, tyName]; decide
@[simp] theorem isTy_int_t (i : List PyData) : isTy "int" (.tuple i) = false := by rw [isTy, tyName]; decide
@[simp] theorem isTy_int_d (i : List (PyData × PyData)) : isTy "int" (.dict i) = false := by cases i <;> (rw [isTy, tyName]; decide)
@[simp] theorem isTy_bool_i (i : Int) : isTy "bool" (.int i) = false := by rw [isTy, tyName]; decide
@[simp] theorem isTy_bool_b (i : Bool) : isTy "bool" (.bool i) = true := by rw [isTy, tyName]; decide
@[simp] theorem isTy_bool_n : isTy "bool" .none = false := by rw [isTy, tyName]; decide
@[simp] theorem isTy_bool_s (i : Str) : isTy "bool" (.str i) = false := by rw [isTy, tyName]; decide
@[simp] theorem isTy_bool_l (i : List PyData) : isTy "bool" (.list i) = false := by rw [isTy, tyName]; decide
@[simp] theorem isTy_bool_t (i : List PyData) : isTy "bool" (.tuple i) = false := by rw [isTy, tyName]; decide
@[simp] theorem isTy_bool_d (i : List (PyData × PyData)) : isTy "bool" (.dict i) = false := by cases i <;> (rw [isTy, tyName]; decide)
@[simp] theorem isTy_tuple_i (i : Int) : isTy "tuple" (.int i) = false := by rw [isTy, tyName]; decide
@[simp] theorem isTy_tuple_b (i : Bool) : isTy "tuple" (.bool i) = false := by rw [isTy, tyName]; decide
@[simp] theorem isTy_tuple_n : isTy "tuple" .none = false := by rw [isTy, tyName]; decide
@[simp] theorem isTy_tuple_s (i : Str) : isTy "tuple" (.str i) = false := by rw [isTy, tyName]; decide
@[simp] theorem isTy_tuple_l (i : List PyData) : isTy "tuple" (.list i) = false := by rw [isTy, tyName]; decide
@[simp] theorem isTy_tuple_t (i : List PyData) : isTy "tuple" (.tuple i) = true := by rw [isTy, tyName]; decide
@[simp] theorem isTy_tuple_d (i : List (PyData × PyData)) : isTy "tuple" (.dict i) = false := by cases i <;> (rw [isTy, tyName]; decide)
@[simp] theorem isTy_str_i (i : Int) : isTy "str" (.int i) = false := by rw [isTy, tyName]; decide
@[simp] theorem isTy_str_b (i : Bool) : isTy "str" (.bool i) = false := by rw [isTy, tyName]; decide
@[simp] theorem isTy_str_n : isTy "str" .none = false := by rw [isTy, tyName]; decide
@[simp] theorem isTy_str_s (i : Str) : isTy "str" (.str i) = true := by rw [isTy, tyName]; decide
@[simp] theorem isTy_str_l (i : List PyData) : isTy "str" (.list i) = false := by rw [isTy, tyName]; decide
@[simp] theorem isTy_str_t (i : List PyData) : isTy "str" (.tuple i) = false := by rw [isTy, tyName]; decide
@[simp] theorem isTy_str_d (i : List (PyData × PyData)) : isTy "str" (.dict i) = false := by cases i <;> (rw [isTy, tyName]; decide)
theorem rd_Lodd : ∀ cs R, sp_Lodd cs R → w_Lodd (endsOf cs R) (start0 2 cs) := by
  rintro _ R ⟨a, b, c, rfl, hR⟩
  simp -implicitDefEqProofs -dsimp [w_Lodd]
  refine ⟨by simp [CPow], ?_⟩
  refine ask_of ⟨a, b, c, _, _, rfl, rfl, by simp, by simp, fun x hx => ?_⟩
  (try simp -implicitDefEqProofs -dsimp)
  exact hR x (by simpa [oddL] using hx)
theorem odd_shp : ∀ x ∈ oddL, Shp true 3 200 x := by
  intro x hx
  refine ⟨?_, ?_, ?_⟩
  · revert x; decide +kernel
  · revert x; decide +kernel
  · revert x; decide +kernel
end TW
set_option Elab.async false
set_option linter.all false
set_option maxRecDepth 100000
set_option maxHeartbeats 4000000
namespace TW
open PySem PySem.Spec PyProof.Rows L2 DL
@[simp] theorem endsM_nx (i : Nat) (cs : List Cell) (R : Cell → List Cell → Prop) (δ : DS) : (endsM i cs R).nx δ = (sameIo cs δ ∧ cs.length ≤ i ∧ ∃ a xs, δ[i]? = some (.ol a xs) ∧ R (.ol a xs) (outC cs δ)) := rfl
end TW
set_option Elab.async false
set_option linter.all false
set_option maxRecDepth 100000
set_option maxHeartbeats 4000000
namespace TW
open PySem PySem.Spec PyProof.Rows L2 DL
theorem askM_of {sp : DSpM} {cs : List Cell} {K : Cell → List Cell → Prop} {u : Stop K} (h : sp cs K) : askM sp cs K u := h
end TW
set_option Elab.async false
set_option linter.all false
set_option maxRecDepth 100000
set_option maxHeartbeats 4000000
namespace TW
open PySem PySem.Spec PyProof.Rows L2 DL
end TW
set_option Elab.async false
set_option linter.all false
set_option maxRecDepth 100000
set_option maxHeartbeats 4000000
namespace TW
open PySem PySem.Spec PyProof.Rows L2 DL
end TW
set_option Elab.async false
set_option linter.all false
set_option maxRecDepth 100000
set_option maxHeartbeats 4000000
namespace TW
open PySem PySem.Spec PyProof.Rows L2 DL
end TW
set_option Elab.async false
set_option linter.all false
set_option maxRecDepth 100000
set_option maxHeartbeats 4000000
namespace TW
open PySem PySem.Spec PyProof.Rows L2 DL
end TW
set_option Elab.async false
set_option linter.all false
set_option maxRecDepth 100000
set_option maxHeartbeats 4000000
namespace TW
open PySem PySem.Spec PyProof.Rows L2 DL
theorem PB.swap {a b bx : List Int} (h : PB a b bx) : PB b a bx := ⟨h.lb, h.la, h.l0, h.l1, h.pb, h.pa, h.px⟩
section
variable {a b bx : List Int} {E : DEnds} {w : Str} {ns : List Int}
def Ans (E : DEnds) (a b bx : List Int) (w : Str) (ns : List Int) (P : Prop) : Prop := ∀ c : Bool, (c = true ↔ P) → ∀ c3 c4 c5 c6 c7, E.rt (.bool c) [.d (prD a b), .d (tI bx), .d (.tuple (.str w :: lI ns)), c3, c4, c5, c6, c7]
theorem Ans.no {P : Prop} (h : Ans E a b bx w ns P) (q : ¬ P) : ∀ c3 c4 c5 c6 c7, E.rt (.bool false) [.d (prD a b), .d (tI bx), .d (.tuple (.str w :: lI ns)), c3, c4, c5, c6, c7] := h false (by simpa using q)
theorem Ans.of {P Q : Prop} (h : Ans E a b bx w ns P) (q : Q ↔ P) : Ans E a b bx w ns Q := fun c hc => h c (hc.trans q)
end
end TW
set_option Elab.async false
set_option linter.all false
set_option maxRecDepth 100000
set_option maxHeartbeats 4000000
namespace TW
open PySem PySem.Spec PyProof.Rows L2 DL
end TW
set_option Elab.async false
set_option linter.all false
set_option maxRecDepth 100000
set_option maxHeartbeats 4000000
namespace TW
open PySem PySem.Spec PyProof.Rows L2 DL
structure Pq (n : Nat) (m : Int) (p q : List Int) : Prop where
  lp : p.length = n
  lq : q.length = n
  n0 : 0 < n
  n1 : n ≤ 4
  pp : ∀ x ∈ p, 1 ≤ x ∧ x ≤ m
  pq : ∀ x ∈ q, 1 ≤ x ∧ x ≤ m
structure Bo (n : Nat) (p q bx : List Int) : Prop where
  l : bx.length = n
  b : ∀ x ∈ bx, 1 ≤ x ∧ x ≤ 10 ^ 13
  f : Fill p q bx
end TW
set_option Elab.async false
set_option linter.all false
set_option maxRecDepth 100000
set_option maxHeartbeats 4000000
namespace TW
open PySem PySem.Spec PyProof.Rows L2 DL
end TW
set_option Elab.async false
set_option linter.all false
set_option maxRecDepth 100000
set_option maxHeartbeats 4000000
namespace K01
open PySem PySem.Spec PyProof.Rows L2 DL TW
abbrev sp_law : DSp := spLaw
def erNs : List Str := ["BadBatch", "BadBox", "BadKinds", "BadOrder", "BadPaper", "BadSide", "BadText", "Busy", "NoAxis", "NoKind", "NoNumber", "NoSeam", "NotFilled", "NothingToUndo", "NoVersion", "Rejected", "TooLarge", "TooManyEdits", "Unfit", "UnlikeAxes"]
def erA (x y : PyData) : List PyData := [excD "BadBatch" [], excD "BadBox" [("error", x)], excD "BadKinds" [("error", x)], excD "BadOrder" [("given", x)], excD "BadPaper" [("given", x)], excD "BadSide" [("given", x)], excD "BadText" [("place", x)], excD "Busy" [],
  excD "NoAxis" [("given", x)], excD "NoKind" [("given", x)], excD "NoNumber" [("number", x)], excD "NoSeam" [("at", y), ("axis", x)], excD "NotFilled" [("reason", x)], excD "NothingToUndo" [],
  excD "NoVersion" [("given", x)], excD "Rejected" [("index", x)], excD "TooLarge" [("axis", x)], excD "TooManyEdits" [], excD "Unfit" [], excD "UnlikeAxes" []]
def sp_Lmade_k01 : DSpM := fun cs R => ∃ x y, cs = [.d x, .d y] ∧ ∀ l, R (.gx (.el l (erA x y))) [.d x, .d y]
def sp_Lclasses : DSp := fun cs R => ∃ a n fs, cs = [.gx (.er a (excD n fs))] ∧ n ∈ erNs ∧ R (.list (erNs.map fun m => .bool (n == m))) [.gx (.er a (excD n fs))]
def sp_Lfields : DSp := fun cs R => ∃ x y, cs = [.d x, .d y] ∧ R (.list (List.replicate 14 x)) [.d x, .d y]
def w_Lmade_k01 : DTN := (wSeqN (wSet 2 (mVL (wVLst (wVCons (wV0 "BadBatch") (wVCons (wV1 "BadBox" "error" (wCons (wVar 0) wNil)) (wVCons (wV1 "BadKinds" "error" (wCons (wVar 0) wNil)) (wVCons (wV1 "BadOrder" "given" (wCons (wVar 0) wNil)) (wVCons (wV1 "BadPaper" "given" (wCons (wVar 0) wNil)) (wVCons (wV1 "BadSide" "given" (wCons (wVar 0) wNil)) (wVCons (wV1 "BadText" "place" (wCons (wVar 0) wNil)) (wVCons (wV0 "Busy") wVNil))))))))))) (wSeqN (wSet 2 (mVL (wVAdd (wVLV 2) (wVLst (wVCons (wV1 "NoAxis" "given" (wCons (wVar 0) wNil)) (wVCons (wV1 "NoKind" "given" (wCons (wVar 0) wNil)) (wVCons (wV1 "NoNumber" "number" (wCons (wVar 0) wNil)) (wVCons (wV2 "NoSeam" "axis" "at" (wCons (wVar 0) (wCons (wVar 1) wNil))) (wVCons (wV1 "NotFilled" "reason" (wCons (wVar 0) wNil)) (wVCons (wV0 "NothingToUndo") wVNil)))))))))) (mRetN (mVL (wVAdd (wVLV 2) (wVLst (wVCons (wV1 "NoVersion" "given" (wCons (wVar 0) wNil)) (wVCons (wV1 "Rejected" "index" (wCons (wVar 0) wNil)) (wVCons (wV1 "TooLarge" "axis" (wCons (wVar 0) wNil)) (wVCons (wV0 "TooManyEdits") (wVCons (wV0 "Unfit") (wVCons (wV0 "UnlikeAxes") wVNil))))))))))))
def w_Lclasses_s1 : DTS := (wRet (wOp pAddB (wVar 1) (wOfL (wLst (wCons (wVis erNs (fun n => n == "Unfit") (wVV 0)) (wCons (wVis erNs (fun n => n == "UnlikeAxes") (wVV 0)) wNil))))))
@[simp ↓] theorem w_Lclasses_s1_ap (E : DEnds) (δ : DS) : w_Lclasses_s1 E δ = (wRet (wOp pAddB (wVar 1) (wOfL (wLst (wCons (wVis erNs (fun n => n == "Unfit") (wVV 0)) (wCons (wVis erNs (fun n => n == "UnlikeAxes") (wVV 0)) wNil)))))) E δ := rfl
def w_Lclasses_s2 : DTS := (wSeq (wSet 1 (mE (wOp pAddB (wVar 1) (wOfL (wLst (wCons (wVis erNs (fun n => n == "Rejected") (wVV 0)) (wCons (wVis erNs (fun n => n == "TooLarge") (wVV 0)) (wCons (wVis erNs (fun n => n == "TooManyEdits") (wVV 0)) wNil)))))))) w_Lclasses_s1)
@[simp ↓] theorem w_Lclasses_s2_ap (E : DEnds) (δ : DS) : w_Lclasses_s2 E δ = (wSeq (wSet 1 (mE (wOp pAddB (wVar 1) (wOfL (wLst (wCons (wVis erNs (fun n => n == "Rejected") (wVV 0)) (wCons (wVis erNs (fun n => n == "TooLarge") (wVV 0)) (wCons (wVis erNs (fun n => n == "TooManyEdits") (wVV 0)) wNil)))))))) w_Lclasses_s1) E δ := rfl
def w_Lclasses_s3 : DTS := (wSeq (wSet 1 (mE (wOp pAddB (wVar 1) (wOfL (wLst (wCons (wVis erNs (fun n => n == "NotFilled") (wVV 0)) (wCons (wVis erNs (fun n => n == "NothingToUndo") (wVV 0)) (wCons (wVis erNs (fun n => n == "NoVersion") (wVV 0)) wNil)))))))) w_Lclasses_s2)
@[simp ↓] theorem w_Lclasses_s3_ap (E : DEnds) (δ : DS) : w_Lclasses_s3 E δ = (wSeq (wSet 1 (mE (wOp pAddB (wVar 1) (wOfL (wLst (wCons (wVis erNs (fun n => n == "NotFilled") (wVV 0)) (wCons (wVis erNs (fun n => n == "NothingToUndo") (wVV 0)) (wCons (wVis erNs (fun n => n == "NoVersion") (wVV 0)) wNil)))))))) w_Lclasses_s2) E δ := rfl
def w_Lclasses_s4 : DTS := (wSeq (wSet 1 (mE (wOp pAddB (wVar 1) (wOfL (wLst (wCons (wVis erNs (fun n => n == "NoKind") (wVV 0)) (wCons (wVis erNs (fun n => n == "NoNumber") (wVV 0)) (wCons (wVis erNs (fun n => n == "NoSeam") (wVV 0)) wNil)))))))) w_Lclasses_s3)
@[simp ↓] theorem w_Lclasses_s4_ap (E : DEnds) (δ : DS) : w_Lclasses_s4 E δ = (wSeq (wSet 1 (mE (wOp pAddB (wVar 1) (wOfL (wLst (wCons (wVis erNs (fun n => n == "NoKind") (wVV 0)) (wCons (wVis erNs (fun n => n == "NoNumber") (wVV 0)) (wCons (wVis erNs (fun n => n == "NoSeam") (wVV 0)) wNil)))))))) w_Lclasses_s3) E δ := rfl
def w_Lclasses_s5 : DTS := (wSeq (wSet 1 (mE (wOp pAddB (wVar 1) (wOfL (wLst (wCons (wVis erNs (fun n => n == "BadText") (wVV 0)) (wCons (wVis erNs (fun n => n == "Busy") (wVV 0)) (wCons (wVis erNs (fun n => n == "NoAxis") (wVV 0)) wNil)))))))) w_Lclasses_s4)
@[simp ↓] theorem w_Lclasses_s5_ap (E : DEnds) (δ : DS) : w_Lclasses_s5 E δ = (wSeq (wSet 1 (mE (wOp pAddB (wVar 1) (wOfL (wLst (wCons (wVis erNs (fun n => n == "BadText") (wVV 0)) (wCons (wVis erNs (fun n => n == "Busy") (wVV 0)) (wCons (wVis erNs (fun n => n == "NoAxis") (wVV 0)) wNil)))))))) w_Lclasses_s4) E δ := rfl
def w_Lclasses_s6 : DTS := (wSeq (wSet 1 (mE (wOp pAddB (wVar 1) (wOfL (wLst (wCons (wVis erNs (fun n => n == "BadOrder") (wVV 0)) (wCons (wVis erNs (fun n => n == "BadPaper") (wVV 0)) (wCons (wVis erNs (fun n => n == "BadSide") (wVV 0)) wNil)))))))) w_Lclasses_s5)
@[simp ↓] theorem w_Lclasses_s6_ap (E : DEnds) (δ : DS) : w_Lclasses_s6 E δ = (wSeq (wSet 1 (mE (wOp pAddB (wVar 1) (wOfL (wLst (wCons (wVis erNs (fun n => n == "BadOrder") (wVV 0)) (wCons (wVis erNs (fun n => n == "BadPaper") (wVV 0)) (wCons (wVis erNs (fun n => n == "BadSide") (wVV 0)) wNil)))))))) w_Lclasses_s5) E δ := rfl
def w_Lclasses : DTS := (wSeq (wSet 1 (mE (wOfL (wLst (wCons (wVis erNs (fun n => n == "BadBatch") (wVV 0)) (wCons (wVis erNs (fun n => n == "BadBox") (wVV 0)) (wCons (wVis erNs (fun n => n == "BadKinds") (wVV 0)) wNil))))))) w_Lclasses_s6)
def w_Lfields_s1 : DTS := (wRet (wOp pAddB (wVar 2) (wOfL (wLst (wCons (wVf erNs "given" (wV1K "NoVersion" "given" (wCons (wVar 0) wNil))) (wCons (wVf erNs "index" (wV1K "Rejected" "index" (wCons (wVar 0) wNil))) (wCons (wVf erNs "axis" (wV1K "TooLarge" "axis" (wCons (wVar 0) wNil))) wNil)))))))
@[simp ↓] theorem w_Lfields_s1_ap (E : DEnds) (δ : DS) : w_Lfields_s1 E δ = (wRet (wOp pAddB (wVar 2) (wOfL (wLst (wCons (wVf erNs "given" (wV1K "NoVersion" "given" (wCons (wVar 0) wNil))) (wCons (wVf erNs "index" (wV1K "Rejected" "index" (wCons (wVar 0) wNil))) (wCons (wVf erNs "axis" (wV1K "TooLarge" "axis" (wCons (wVar 0) wNil))) wNil))))))) E δ := rfl
def w_Lfields_s2 : DTS := (wSeq (wSet 2 (mE (wOp pAddB (wVar 2) (wOfL (wLst (wCons (wVf erNs "number" (wV1K "NoNumber" "number" (wCons (wVar 0) wNil))) (wCons (wVf erNs "axis" (wV2K "NoSeam" "axis" "at" (wCons (wVar 1) (wCons (wVar 0) wNil)))) (wCons (wVf erNs "reason" (wV1K "NotFilled" "reason" (wCons (wVar 0) wNil))) wNil)))))))) w_Lfields_s1)
@[simp ↓] theorem w_Lfields_s2_ap (E : DEnds) (δ : DS) : w_Lfields_s2 E δ = (wSeq (wSet 2 (mE (wOp pAddB (wVar 2) (wOfL (wLst (wCons (wVf erNs "number" (wV1K "NoNumber" "number" (wCons (wVar 0) wNil))) (wCons (wVf erNs "axis" (wV2K "NoSeam" "axis" "at" (wCons (wVar 1) (wCons (wVar 0) wNil)))) (wCons (wVf erNs "reason" (wV1K "NotFilled" "reason" (wCons (wVar 0) wNil))) wNil)))))))) w_Lfields_s1) E δ := rfl
def w_Lfields_s3 : DTS := (wSeq (wSet 2 (mE (wOp pAddB (wVar 2) (wOfL (wLst (wCons (wVf erNs "given" (wV1K "BadSide" "given" (wCons (wVar 0) wNil))) (wCons (wVf erNs "place" (wV1K "BadText" "place" (wCons (wVar 0) wNil))) (wCons (wVf erNs "given" (wV1K "NoAxis" "given" (wCons (wVar 0) wNil))) (wCons (wVf erNs "given" (wV1K "NoKind" "given" (wCons (wVar 0) wNil))) wNil))))))))) w_Lfields_s2)
@[simp ↓] theorem w_Lfields_s3_ap (E : DEnds) (δ : DS) : w_Lfields_s3 E δ = (wSeq (wSet 2 (mE (wOp pAddB (wVar 2) (wOfL (wLst (wCons (wVf erNs "given" (wV1K "BadSide" "given" (wCons (wVar 0) wNil))) (wCons (wVf erNs "place" (wV1K "BadText" "place" (wCons (wVar 0) wNil))) (wCons (wVf erNs "given" (wV1K "NoAxis" "given" (wCons (wVar 0) wNil))) (wCons (wVf erNs "given" (wV1K "NoKind" "given" (wCons (wVar 0) wNil))) wNil))))))))) w_Lfields_s2) E δ := rfl
def w_Lfields : DTS := (wSeq (wSet 2 (mE (wOfL (wLst (wCons (wVf erNs "error" (wV1K "BadBox" "error" (wCons (wVar 0) wNil))) (wCons (wVf erNs "error" (wV1K "BadKinds" "error" (wCons (wVar 0) wNil))) (wCons (wVf erNs "given" (wV1K "BadOrder" "given" (wCons (wVar 0) wNil))) (wCons (wVf erNs "given" (wV1K "BadPaper" "given" (wCons (wVar 0) wNil))) wNil)))))))) w_Lfields_s3)
def w_law_t1 : DTS := (wIf (wB (wOp pNe (wFn pReprN (wCons (wOfL (wLst (wCons (wVf erNs "at" (wVIx (wVLV 6) (wC (.int 11)))) (wCons (wVf erNs "at" (wV2K "NoSeam" "axis" "at" (wCons (wVar 5) (wCons (wVar 4) wNil)))) wNil)))) wNil)) (wFn pReprN (wCons (wOfL (wLst (wCons (wVar 5) (wCons (wVar 5) wNil)))) wNil)))) (wRet (wC (.bool false))) wNext)
def w_law_s1 : DTS := (wSeq (wIf (wOr (wB (wOp pNe (wFn pReprN (wCons (wVar 9) wNil)) (wFn pReprN (wCons (wOp pMulT (wOfL (wLst (wCons (wVar 4) wNil))) (wC (.int 14))) wNil)))) (wB (wOp pNe (wFn pReprN (wCons (wCall [] sp_Lfields (wCons (wVar 4) (wCons (wVar 5) wNil))) wNil)) (wFn pReprN (wCons (wOp pMulT (wOfL (wLst (wCons (wVar 4) wNil))) (wC (.int 14))) wNil))))) (wRet (wC (.bool false))) wNext) w_law_t1)
@[simp ↓] theorem w_law_s1_ap (E : DEnds) (δ : DS) : w_law_s1 E δ = (wSeq (wIf (wOr (wB (wOp pNe (wFn pReprN (wCons (wVar 9) wNil)) (wFn pReprN (wCons (wOp pMulT (wOfL (wLst (wCons (wVar 4) wNil))) (wC (.int 14))) wNil)))) (wB (wOp pNe (wFn pReprN (wCons (wCall [] sp_Lfields (wCons (wVar 4) (wCons (wVar 5) wNil))) wNil)) (wFn pReprN (wCons (wOp pMulT (wOfL (wLst (wCons (wVar 4) wNil))) (wC (.int 14))) wNil))))) (wRet (wC (.bool false))) wNext) w_law_t1) E δ := rfl
def w_law_s2 : DTS := (wSeq (wSet 9 (mE (wOp pAddB (wVar 9) (wOfL (wLst (wCons (wVf erNs "given" (wVIx (wVLV 6) (wC (.int 14)))) (wCons (wVf erNs "index" (wVIx (wVLV 6) (wC (.int 15)))) (wCons (wVf erNs "axis" (wVIx (wVLV 6) (wC (.int 16)))) wNil)))))))) w_law_s1)
@[simp ↓] theorem w_law_s2_ap (E : DEnds) (δ : DS) : w_law_s2 E δ = (wSeq (wSet 9 (mE (wOp pAddB (wVar 9) (wOfL (wLst (wCons (wVf erNs "given" (wVIx (wVLV 6) (wC (.int 14)))) (wCons (wVf erNs "index" (wVIx (wVLV 6) (wC (.int 15)))) (wCons (wVf erNs "axis" (wVIx (wVLV 6) (wC (.int 16)))) wNil)))))))) w_law_s1) E δ := rfl
def w_law_s3 : DTS := (wSeq (wSet 9 (mE (wOp pAddB (wVar 9) (wOfL (wLst (wCons (wVf erNs "given" (wVIx (wVLV 6) (wC (.int 8)))) (wCons (wVf erNs "given" (wVIx (wVLV 6) (wC (.int 9)))) (wCons (wVf erNs "number" (wVIx (wVLV 6) (wC (.int 10)))) (wCons (wVf erNs "axis" (wVIx (wVLV 6) (wC (.int 11)))) (wCons (wVf erNs "reason" (wVIx (wVLV 6) (wC (.int 12)))) wNil)))))))))) w_law_s2)
@[simp ↓] theorem w_law_s3_ap (E : DEnds) (δ : DS) : w_law_s3 E δ = (wSeq (wSet 9 (mE (wOp pAddB (wVar 9) (wOfL (wLst (wCons (wVf erNs "given" (wVIx (wVLV 6) (wC (.int 8)))) (wCons (wVf erNs "given" (wVIx (wVLV 6) (wC (.int 9)))) (wCons (wVf erNs "number" (wVIx (wVLV 6) (wC (.int 10)))) (wCons (wVf erNs "axis" (wVIx (wVLV 6) (wC (.int 11)))) (wCons (wVf erNs "reason" (wVIx (wVLV 6) (wC (.int 12)))) wNil)))))))))) w_law_s2) E δ := rfl
def w_law_t2 : DTS := (wIf (wOr (wNot (wB (wVis erNs (fun _ => true) (wVIx (wVLV 6) (wVar 7))))) (wNot (wB (wVis erNs (fun _ => true) (wVIx (wVLV 6) (wVar 7)))))) (wRet (wC (.bool false))) wNext)
def w_law_3 : DTS := (wSeq (wIf (wB (wOp pNe (wCallE sp_Lclasses (wVIx (wVLV 6) (wVar 7))) (wOfL (wComp (iRange1 (wCons (wC (.int 20)) wNil)) (gN 8) tT (wOp pEq (wVar 7) (wVar 8)) [8])))) (wRet (wC (.bool false))) wNext) w_law_t2)
def w_law_t3 : DTS := (wSeq (wSet 9 (mE (wOfL (wLst (wCons (wVf erNs "error" (wVIx (wVLV 6) (wC (.int 1)))) (wCons (wVf erNs "error" (wVIx (wVLV 6) (wC (.int 2)))) (wCons (wVf erNs "given" (wVIx (wVLV 6) (wC (.int 3)))) (wCons (wVf erNs "given" (wVIx (wVLV 6) (wC (.int 4)))) (wCons (wVf erNs "given" (wVIx (wVLV 6) (wC (.int 5)))) (wCons (wVf erNs "place" (wVIx (wVLV 6) (wC (.int 6)))) wNil)))))))))) w_law_s3)
def w_law_s4 : DTS := (wSeq (wFor (iRange1 (wCons (wC (.int 20)) wNil)) (gN 7) w_law_3) w_law_t3)
@[simp ↓] theorem w_law_s4_ap (E : DEnds) (δ : DS) : w_law_s4 E δ = (wSeq (wFor (iRange1 (wCons (wC (.int 20)) wNil)) (gN 7) w_law_3) w_law_t3) E δ := rfl
def w_law_s5 : DTS := (wSeq (wSet 6 (wCallM [] sp_Lmade_k01 (wCons (wVar 4) (wCons (wVar 5) wNil)))) w_law_s4)
@[simp ↓] theorem w_law_s5_ap (E : DEnds) (δ : DS) : w_law_s5 E δ = (wSeq (wSet 6 (wCallM [] sp_Lmade_k01 (wCons (wVar 4) (wCons (wVar 5) wNil)))) w_law_s4) E δ := rfl
def w_law_5 : DTS := (wSeq (wPar2 4 5 (msCons (mE (wCall [true] sp_Lodd (wCons (wVar 1) wNil))) (msCons (mE (wCall [true] sp_Lodd (wCons (wVar 1) wNil))) msNil))) w_law_s5)
def w_law_t4 : DTS := (wSeq (wFor (iRange1 (wCons (wC (.int 6)) wNil)) (gN 3) w_law_5) (wRet (wC (.bool true))))
def w_law_s6 : DTS := (wSeq (wIf (wB (wOp pNe (wFn pReprN (wCons (wVar 2) wNil)) (wFn pReprN (wCons (wOfL (wLst (wCons (wC (.int 4)) (wCons (wOp pPow (wC (.int 10)) (wC (.int 12))) (wCons (wC (.int 4)) (wCons (wC (.int 400)) (wCons (wC (.int 20)) (wCons (wC (.int 1000)) (wCons (wC (.int 30)) (wCons (wC (.int 20)) wNil)))))))))) wNil)))) (wRet (wC (.bool false))) wNext) w_law_t4)
@[simp ↓] theorem w_law_s6_ap (E : DEnds) (δ : DS) : w_law_s6 E δ = (wSeq (wIf (wB (wOp pNe (wFn pReprN (wCons (wVar 2) wNil)) (wFn pReprN (wCons (wOfL (wLst (wCons (wC (.int 4)) (wCons (wOp pPow (wC (.int 10)) (wC (.int 12))) (wCons (wC (.int 4)) (wCons (wC (.int 400)) (wCons (wC (.int 20)) (wCons (wC (.int 1000)) (wCons (wC (.int 30)) (wCons (wC (.int 20)) wNil)))))))))) wNil)))) (wRet (wC (.bool false))) wNext) w_law_t4) E δ := rfl
def w_law_s7 : DTS := (wSeq (wSet 2 (mE (wOfL (wLst (wCons (wC (.int 4)) (wCons (wC (.int 1000000000000)) (wCons (wC (.int 4)) (wCons (wC (.int 400)) (wCons (wC (.int 20)) (wCons (wC (.int 1000)) (wCons (wC (.int 30)) (wCons (wC (.int 20)) wNil)))))))))))) w_law_s6)
@[simp ↓] theorem w_law_s7_ap (E : DEnds) (δ : DS) : w_law_s7 E δ = (wSeq (wSet 2 (mE (wOfL (wLst (wCons (wC (.int 4)) (wCons (wC (.int 1000000000000)) (wCons (wC (.int 4)) (wCons (wC (.int 400)) (wCons (wC (.int 20)) (wCons (wC (.int 1000)) (wCons (wC (.int 30)) (wCons (wC (.int 20)) wNil)))))))))))) w_law_s6) E δ := rfl
def w_law : DTS := (wSeq (wSet 1 (wCallM [true] sp_Ldeck (wCons (wVar 0) wNil))) w_law_s7)
theorem ln_Lmade_k01 : ∀ cs R, sp_Lmade_k01 cs R → cs.length = 2 := by
  intro cs R h
  unfold sp_Lmade_k01 at h
  repeat (obtain ⟨_, h⟩ := h)
  subst_vars; rfl
theorem ln_Lclasses : ∀ cs R, sp_Lclasses cs R → cs.length = 1 := by
  intro cs R h
  unfold sp_Lclasses at h
  repeat (obtain ⟨_, h⟩ := h)
  subst_vars; rfl
theorem ln_Lfields : ∀ cs R, sp_Lfields cs R → cs.length = 2 := by
  intro cs R h
  unfold sp_Lfields at h
  repeat (obtain ⟨_, h⟩ := h)
  subst_vars; rfl
theorem ln_law : ∀ cs R, sp_law cs R → cs.length = 1 := by
  intro cs R h
  unfold sp_law at h
  repeat (obtain ⟨_, h⟩ := h)
  subst_vars; rfl
end K01
set_option Elab.async false
set_option linter.all false
set_option maxRecDepth 100000
set_option maxHeartbeats 4000000
namespace K01
open PySem PySem.Spec PyProof.Rows L2 DL TW
theorem rd_Lmade_k01 : ∀ cs R, sp_Lmade_k01 cs R → w_Lmade_k01 (fun c δ => sameIo cs δ ∧ R c (outC cs δ)) (start0 3 cs) := by
  rintro _ R ⟨x, y, rfl, h⟩
  simp -implicitDefEqProofs -dsimp [w_Lmade_k01]
  intro l
  exact h l
theorem rd_Lclasses : ∀ cs R, sp_Lclasses cs R → w_Lclasses (endsOf cs R) (start0 2 cs) := by
  rintro _ R ⟨a, n, fs, rfl, hn, h⟩
  simp -implicitDefEqProofs -dsimp [w_Lclasses, visC_of hn]
  exact h
theorem vf1 {n f : Str} {x : PyData} {k : PyData → Prop} {u : Stop k} (h : n ∈ erNs) (q : k x) : vfC (excD n [(f, x)]) erNs f k u := by
  rw [vfC_of h (y := x) (by simp)]; exact q
theorem vf2 {x y : PyData} {k : PyData → Prop} {u : Stop k} (q : k x) : vfC (excD "NoSeam" [("at", y), ("axis", x)]) erNs "axis" k u := by
  rw [vfC_of (n := "NoSeam") (by decide) (y := x) (by rfl)]; exact q
theorem vf3 {x y : PyData} {k : PyData → Prop} {u : Stop k} (q : k y) : vfC (excD "NoSeam" [("at", y), ("axis", x)]) erNs "at" k u := by
  rw [vfC_of (n := "NoSeam") (by decide) (y := y) (by rfl)]; exact q
theorem rd_Lfields : ∀ cs R, sp_Lfields cs R → w_Lfields (endsOf cs R) (start0 3 cs) := by
  rintro _ R ⟨x, y, rfl, h⟩
  simp -implicitDefEqProofs -dsimp [w_Lfields]
  iterate 9 refine vf1 (by decide) ?_; simp -implicitDefEqProofs -dsimp
  refine vf2 ?_
  (try simp -implicitDefEqProofs -dsimp)
  iterate 4 refine vf1 (by decide) ?_; simp -implicitDefEqProofs -dsimp
  exact h
def erN (k : Nat) : Str := erNs[k]?.getD ""
theorem er_at (x y : PyData) : ∀ k : Nat, k < 20 → ∃ fs, (erA x y)[k]? = some (excD (erN k) fs)
  | 0, _ | 1, _ | 2, _ | 3, _ | 4, _ | 5, _ | 6, _ | 7, _ | 8, _ | 9, _ | 10, _ | 11, _ | 12, _ | 13, _ | 14, _ | 15, _ | 16, _ | 17, _ | 18, _ | 19, _ => ⟨_, rfl⟩
  | _ + 20, h => absurd h (by omega)
theorem er_in : ∀ k : Nat, k < 20 → erN k ∈ erNs := by decide
theorem er_row {k : Nat} (h : k < 20) : (erNs.map fun m => PyData.bool (erN k == m)) = (List.range 20).map fun i => .bool (decide ((k : Int) = (i : Int))) := by
  have e : (erNs.map fun m => erN k == m) = (List.range 20).map fun i : Nat => decide ((k : Int) = (i : Int)) := (by decide : ∀ k : Nat, k < 20 → (erNs.map fun m => erN k == m) = (List.range 20).map fun i : Nat => decide ((k : Int) = (i : Int))) k h
  have := congrArg (List.map PyData.bool) e
  simpa [List.map_map, Function.comp_def] using this
theorem ix1 {o o2 : PyData} {k : Nat} {n f : Str} {R : PyData → Prop} {u : Stop R} {u'} (e : (erA o o2)[k]? = some (excD n [(f, o)])) (h : n ∈ erNs) (q : R o) : ixV (erA o o2) (.int (k : Int)) (fun x => vfC x erNs f R u) u' := by
  rw [ixV_of e]; exact vf1 h q
theorem ix2 {o o2 : PyData} {R : PyData → Prop} {u : Stop R} {u'} (q : R o) : ixV (erA o o2) (.int 11) (fun x => vfC x erNs "axis" R u) u' := by
  have := ixV_of (k := fun x => vfC x erNs "axis" R u) (u := u') (n := 11) (xs := erA o o2) rfl
  rw [show (11 : Int) = ((11 : Nat) : Int) from rfl, this]; exact vf2 q
theorem ix3 {o o2 : PyData} {R : PyData → Prop} {u : Stop R} {u'} (q : R o2) : ixV (erA o o2) (.int 11) (fun x => vfC x erNs "at" R u) u' := by
  have := ixV_of (k := fun x => vfC x erNs "at" R u) (u := u') (n := 11) (xs := erA o o2) rfl
  rw [show (11 : Int) = ((11 : Nat) : Int) from rfl, this]; exact vf3 q
theorem rd_law : ∀ cs R, sp_law cs R → w_law (endsOf cs R) (start0 10 cs) := by
  rintro _ R ⟨a, ns, rfl, hR⟩
  simp -implicitDefEqProofs -dsimp [w_law]
  refine ask_deck fun a1 a2 a3 => ?_
  (try simp -implicitDefEqProofs -dsimp)
  have s1 : ∀ i : Int, i ∈ [(4 : Int), 1000000000000, 4, 400, 20, 1000, 30, 20] → Shp true 1 73 (.int i) := fun i hi => Shp.int64 (by revert i; decide) (by revert i; decide)
  have sh : Shp true 2 1000 (.list ([(4 : Int), 1000000000000, 4, 400, 20, 1000, 30, 20].map PyData.int)) := (Shp.list (ShpL.of (n := 1) (w := 73) fun x hx => by
    obtain ⟨i, hi, rfl⟩ := List.mem_map.mp hx
    exact s1 i hi)).mono (by decide) (by decide)
  have sh : Shp true 2 1000 (.list [.int 4, .int 1000000000000, .int 4, .int 400, .int 20, .int 1000, .int 30, .int 20]) := sh
  refine sh.repr ⟨?_, sh.repr ?_⟩
  · unfold CPow; decide
  simp -implicitDefEqProofs -dsimp [w_law_t4]
  refine for_stay (fun δ => ∃ c3 c4 c5 c6 c7 c8 c9, δ = [.scr a ns, .dk a1 a2 a3, .d (.list [.int 4, .int 1000000000000, .int 4, .int 400, .int 20, .int 1000, .int 30, .int 20]), c3, c4, c5, c6, c7, c8, c9]) ⟨_, _, _, _, _, _, _, rfl⟩ ?_ ?_
  · rintro δ ⟨c3, c4, c5, c6, c7, c8, c9, rfl⟩
    (try simp -implicitDefEqProofs -dsimp)
    exact hR _
  · rintro x hx δ ⟨c3, c4, c5, c6, c7, c8, c9, rfl⟩ K B T hK
    simp -implicitDefEqProofs -dsimp [w_law_5]
    refine ask_of (sp := sp_Lodd) ⟨a1, a2, a3, rfl, fun o ho => ?_⟩
    (try simp -implicitDefEqProofs -dsimp)
    refine ask_of (sp := sp_Lodd) ⟨a1, a2, a3, rfl, fun o2 ho2 => ?_⟩
    (try simp -implicitDefEqProofs -dsimp)
    refine askM_of (sp := sp_Lmade_k01) ⟨o, o2, rfl, fun l => ?_⟩
    (try simp -implicitDefEqProofs -dsimp)
    generalize PyData.list [.int 4, .int 1000000000000, .int 4, .int 400, .int 20, .int 1000, .int 30, .int 20] = told at *
    refine for_cnt 0 20 (fun i δ => ∃ c7 c8, δ = [.scr a ns, .dk a1 a2 a3, .d told, .d x, .d o, .d o2, .gx (.el l (erA o o2)), c7, c8, c9]) ⟨_, _, rfl⟩ ?_ ?_
    · rintro δ ⟨c7, c8, rfl⟩
      simp -implicitDefEqProofs -dsimp [w_law_t3]
      refine ix1 (k := 1) rfl (by decide) ?_; simp -implicitDefEqProofs -dsimp
      refine ix1 (k := 2) rfl (by decide) ?_; simp -implicitDefEqProofs -dsimp
      refine ix1 (k := 3) rfl (by decide) ?_; simp -implicitDefEqProofs -dsimp
      refine ix1 (k := 4) rfl (by decide) ?_; simp -implicitDefEqProofs -dsimp
      refine ix1 (k := 5) rfl (by decide) ?_; simp -implicitDefEqProofs -dsimp
      refine ix1 (k := 6) rfl (by decide) ?_; simp -implicitDefEqProofs -dsimp
      refine ix1 (k := 8) rfl (by decide) ?_; simp -implicitDefEqProofs -dsimp
      refine ix1 (k := 9) rfl (by decide) ?_; simp -implicitDefEqProofs -dsimp
      refine ix1 (k := 10) rfl (by decide) ?_; simp -implicitDefEqProofs -dsimp
      refine ix2 ?_; simp -implicitDefEqProofs -dsimp
      refine ix1 (k := 12) rfl (by decide) ?_; simp -implicitDefEqProofs -dsimp
      refine ix1 (k := 14) rfl (by decide) ?_; simp -implicitDefEqProofs -dsimp
      refine ix1 (k := 15) rfl (by decide) ?_; simp -implicitDefEqProofs -dsimp
      refine ix1 (k := 16) rfl (by decide) ?_; simp -implicitDefEqProofs -dsimp
      have l14 : ∀ xs : List PyData, (∀ y ∈ xs, y = o ∨ y = o2) → xs.length ≤ 20 → Shp true 4 5000 (.list xs) := fun xs hxs hl =>
        (Shp.list (ShpL.of (n := 3) (w := 200) fun y hy => by
          rcases hxs y hy with rfl | rfl
          · exact odd_shp _ ho
          · exact odd_shp _ ho2)).mono (by decide) (by omega)
      have r14 : Shp true 4 5000 (.list [o, o, o, o, o, o, o, o, o, o, o, o, o, o]) := l14 _ (by simp) (by simp)
      refine r14.repr (r14.repr ?_)
      refine ask_of (sp := sp_Lfields) ⟨_, _, rfl, ?_⟩
      (try simp -implicitDefEqProofs -dsimp)
      refine r14.repr (r14.repr ?_)
      simp -implicitDefEqProofs -dsimp [w_law_t1]
      refine ix3 ?_; simp -implicitDefEqProofs -dsimp
      refine vf3 ?_; simp -implicitDefEqProofs -dsimp
      have r2 : Shp true 4 5000 (.list [o2, o2]) := l14 _ (by simp) (by simp)
      refine r2.repr (r2.repr ?_)
      (try simp -implicitDefEqProofs -dsimp)
      exact hK _ ⟨_, _, _, _, _, _, _, rfl⟩
    · rintro i δ hi ⟨c7, c8, rfl⟩ K2 B2 T2 hK2
      obtain ⟨fs, hf⟩ := er_at o o2 i hi
      simp -implicitDefEqProofs -dsimp [w_law_3, Int.zero_add, ixV_of hf]
      intro ae
      refine ask_of (sp := sp_Lclasses) ⟨ae, _, _, rfl, er_in i hi, ?_⟩
      (try simp -implicitDefEqProofs -dsimp)
      refine com_map ((List.range 20).map fun j : Nat => (j : Int)) PyData.int (by rw [nums_0, List.map_map]; rfl) (fun j => some (.bool (decide ((i : Int) = j)))) ?_ ?_
      · intro j hj acc K3 hK3
        (try simp -implicitDefEqProofs -dsimp)
        exact hK3
      · have eb : List.filterMap (fun j : Int => some (PyData.bool (decide ((i : Int) = j)))) ((List.range 20).map fun j : Nat => (j : Int)) = (List.range 20).map fun j : Nat => .bool (decide ((i : Int) = (j : Int))) := by
          rw [List.filterMap_map, ← List.filterMap_eq_map]; rfl
        rw [er_row hi, eb]
        have sb : Shp false 2 1000 (.list ((List.range 20).map fun j : Nat => PyData.bool (decide ((i : Int) = (j : Int))))) := (Shp.list (ShpL.of (n := 1) (w := 10) fun y hy => by
          obtain ⟨j, _, rfl⟩ := List.mem_map.mp hy
          exact Shp.bool.mono (Nat.le_refl _) (by decide))).mono (by decide) (by simp)
        have ev := eqv_refl' sb
        generalize (List.range 20).map (fun j : Nat => PyData.bool (decide ((i : Int) = (j : Int)))) = bs at sb ev ⊢
        (try simp -implicitDefEqProofs -dsimp)
        rw [if_pos (show PyData.eqvAll bs bs = true from ev)]
        simp -implicitDefEqProofs -dsimp [w_law_t2, ixV_of hf, visC_of (er_in i hi)]
        exact ⟨sb.shaped, hK2 _ ⟨_, _, rfl⟩⟩
end K01
set_option Elab.async false
set_option linter.all false
set_option maxRecDepth 100000
set_option maxHeartbeats 4000000
namespace K01
open PySem PySem.Spec PyProof.Rows L2 DL TW
variable [DL.Tb]
theorem sc_Ldeck : FnScope ["_law_script", "_law_cells", "_law_cell"] ["_law_script"] (defScope s_Ldeck) := ⟨rfl, rfl, rfl, by decide +kernel, rfl, by decide +kernel, by decide +kernel⟩
theorem sc_Ldraw : FnScope ["_law_deck_here", "_law_many", "_law_rest", "_law_cell", "_law_mixed"] ["_law_deck_here", "_law_many"] (defScope s_Ldraw) := ⟨rfl, rfl, rfl, by decide +kernel, rfl, by decide +kernel, by decide +kernel⟩
theorem sc_Lone : FnScope ["_law_deck_here", "_law_items"] ["_law_deck_here", "_law_items"] (defScope s_Lone) := ⟨rfl, rfl, rfl, by decide +kernel, rfl, by decide +kernel, by decide +kernel⟩
theorem sc_Lodd : FnScope ["_law_deck_here", "_law_some"] ["_law_deck_here"] (defScope s_Lodd) := ⟨rfl, rfl, rfl, by decide +kernel, rfl, by decide +kernel, by decide +kernel⟩
theorem sc_Lmade : FnScope ["_law_one_here", "_law_two", "_law_found"] ["_law_one_here", "_law_two"] (defScope s_Lmade) := ⟨rfl, rfl, rfl, by decide +kernel, rfl, by decide +kernel, by decide +kernel⟩
theorem sc_Lclasses : FnScope ["_law_error", "_law_found"] ["_law_error"] (defScope s_Lclasses) := ⟨rfl, rfl, rfl, by decide +kernel, rfl, by decide +kernel, by decide +kernel⟩
theorem sc_Lfields : FnScope ["_law_one_here", "_law_two", "_law_found"] ["_law_one_here", "_law_two"] (defScope s_Lfields) := ⟨rfl, rfl, rfl, by decide +kernel, rfl, by decide +kernel, by decide +kernel⟩
theorem sc_law : FnScope ["_law_script", "_law_deck_here", "_law_told", "_law_turn", "_law_one_here", "_law_two", "_law_errors", "_law_k", "_law_own", "_law_kept"] ["_law_script"] (defScope s_law) := ⟨rfl, rfl, rfl, by decide +kernel, rfl, by decide +kernel, by decide +kernel⟩
variable {P : Program} {w : World} {K : W.Frag} {mg : Str → Option Value} {base : Heap}
structure Gkb (K : W.Frag) (mg : Str → Option Value) (n : Str) (f : Addr) (fd : FuncData) (ps : List Str) : Prop where
  g : mg n = some (.ref f)
  k : W.keepIn K (.ref f) = true
  b : Binds K fd ps []
set_option maxHeartbeats 0 in
theorem ok_Ldeck {f : Addr} {fd : FuncData} (F : Fun K "_law_deck" "_law_deck" s_Ldeck f fd) (z_abs : mg "abs" = none) (z_len : mg "len" = none) : FnG P w K mg base CX0 1 f fd ["_law_script"] (liftM K spDeck) := by
  have nd := sc_Ldeck.nd
  refine ok_deck F sc_Ldeck rfl rfl rfl (fun cdv A outer s H E hr => ?_) (fun cdv A outer s H E hr => ?_)
  · exact (js_setCL (i := 1) (own := [("_law_cell", 2)]) rfl nd rfl rfl (sw_true rfl rfl rfl (by decide +kernel)) (ji_seq (je_cut (jpv 0))) (blkOk_by (by kernel_rfl)) (by decide) (fun _ _ _ _ _ => (jgn 2 nd)) (fun _ _ _ _ _ => jts_nil) (fun _ _ _ _ _ => je_fn c_abs rfl z_abs boot_abs (ja_cons (jv 2) ja_nil)))
  · exact (jms_cons (jm_l (jl_comp (own := [("_law_cell", 2)]) rfl nd (ji_seq (jv 1)) (blkOk_by (by kernel_rfl)) (by decide) (fun _ _ _ _ _ => (jgn 2 nd)) (fun _ _ _ _ _ => jts_one (jt_cmp d_ge (jv 2) (je_op d_pow je_int je_int))) (fun _ _ _ _ _ => (jv 2))))
      (jms_cons (jm_l (jl_op d_addL (jv 1) (je_ofL (jl_lst (ja_cons (je_op d_add je_int (je_fn c_len rfl z_len boot_len (ja_cons (jv 1) ja_nil))) ja_nil))))) (jms_cons (jm_e je_int) jms_nil)))
set_option maxHeartbeats 0 in
theorem ok_Ldraw {f : Addr} {fd : FuncData} (F : Fun K "_law_draw" "_law_draw" s_Ldraw f fd) (z_int : mg "int" = none) (z_len : mg "len" = none) : FnG P w K mg base CX0 1 f fd ["_law_deck_here", "_law_many"] (liftSp K spDraw) := by
  have nd := sc_Ldraw.nd
  refine ok_draw F sc_Ldraw rfl rfl fun cdv A outer s H E hr => ?_
  exact (jss_cons (js_if (jt_kne hr.u64 (jpv 0)) (jss_cons (jset 2 nd (jm_e (je_k00 (jpv 0)))) (jss_cons (js_put00 (jpv 0) (je_op d_div (jv 2) (jv 1)))
      (jss_cons (js_if (jt_cmp (d_eq hr.u64) (je_k00 (jpv 0)) je_int) (jss_one (js_pop0 (jpv 0) rfl (pe_bm PySem.F.plainAttrs_list PySem.F.slot_list_pop PySem.F.type_list_pop mt_popAt (pe_ix ix_list (jpv 0) pe_int (fun _ _ => rfl)) (pa_cons pe_int pa_nil)))) jss_nil)
      (jss_one (js_ret (je_op d_mod (je_ty c_int rfl z_int boot_int (ja_cons (jv 2) ja_nil)) (jv 1))))))) jss_nil)
    (jss_cons (js_put2 (jpv 0) (je_op d_add (je_k2 (jpv 0)) je_int))
    (jss_cons (jset 3 nd (jm_e (je_k1 (jpv 0) (je_op d_mod (je_ty c_int rfl z_int boot_int (ja_cons (je_k2 (jpv 0)) ja_nil)) (je_klen rfl z_len boot_len (jpv 0))) (fun _ _ => rfl))))
    (jss_cons (jset 4 nd (jm_e (je_op d_mod (je_ty c_int rfl z_int boot_int (ja_cons (je_op d_add (je_op d_mod (je_ty c_int rfl z_int boot_int (ja_cons (jv 3) ja_nil)) je_int) (je_op d_mul je_int (je_k2 (jpv 0)))) ja_nil)) je_int)))
    (jss_cons (jset 4 nd (jm_e (je_op d_mod (je_ty c_int rfl z_int boot_int (ja_cons (je_op d_add (je_op d_mul (jv 4) (jv 4)) (je_op d_mul je_int (je_k2 (jpv 0)))) ja_nil)) je_int)))
    (jss_one (js_ret (je_op d_mod (je_op d_div (je_op d_mod (je_ty c_int rfl z_int boot_int (ja_cons (je_op d_mul (jv 4) (jv 4)) ja_nil)) je_int) je_int) (jv 1)))))))))
set_option maxHeartbeats 0 in
theorem ok_Lone {f : Addr} {fd : FuncData} (F : Fun K "_law_one" "_law_one" s_Lone f fd) (z_len : mg "len" = none) {f_Ldraw : Addr} {fd_Ldraw : FuncData} (F_Ldraw : FnG P w K mg base CX0 1 f_Ldraw fd_Ldraw ["_law_deck_here", "_law_many"] (liftSp K sp_Ldraw)) (q_Ldraw : Gkb K mg "_law_draw" f_Ldraw fd_Ldraw ["_law_deck_here", "_law_many"]) : FnG P w K mg base CX0 2 f fd ["_law_deck_here", "_law_items"] (liftSp K sp_Lone) := by
  have nd := sc_Lone.nd
  replace F_Ldraw := F_Ldraw.mono (show 1 ≤ 1 by decide)
  refine okD (wb := w_Lone) F sc_Lone ln_Lone (fun cdv A outer s H E hr => ?_) rd_Lone
  exact (jss_one (js_ret (je_ix d_ix (jv 1) (je_call (m := [true, false]) F_Ldraw hr rfl q_Ldraw.g q_Ldraw.k q_Ldraw.b (ja_cons (jv 0) (ja_cons (je_fn c_len rfl z_len boot_len (ja_cons (jv 1) ja_nil)) ja_nil))) (fun _ _ => rfl))))
set_option maxHeartbeats 0 in
theorem ok_Lodd {f : Addr} {fd : FuncData} (F : Fun K "_law_odd" "_law_odd" s_Lodd f fd) {f_Lone : Addr} {fd_Lone : FuncData} (F_Lone : FnG P w K mg base CX0 2 f_Lone fd_Lone ["_law_deck_here", "_law_items"] (liftSp K sp_Lone)) (q_Lone : Gkb K mg "_law_one" f_Lone fd_Lone ["_law_deck_here", "_law_items"]) : FnG P w K mg base CX0 3 f fd ["_law_deck_here"] (liftSp K sp_Lodd) := by
  have nd := sc_Lodd.nd
  replace F_Lone := F_Lone.mono (show 2 ≤ 2 by decide)
  refine okD (wb := w_Lodd) F sc_Lodd ln_Lodd (fun cdv A outer s H E hr => ?_) rd_Lodd
  exact (jss_cons (jset 1 nd (jm_e (je_ofL (jl_lst (ja_cons je_non (ja_cons je_bl (ja_cons je_bl (ja_cons je_int (ja_cons je_int (ja_cons je_int (ja_cons (je_neg je_int) (ja_cons (je_op d_pow je_int je_int) (ja_cons je_str (ja_cons je_str (ja_cons je_str (ja_cons je_str (ja_cons (je_tup ja_nil) (ja_cons (je_ofL (jl_lst ja_nil)) (ja_cons je_dic (ja_cons (je_tup (ja_cons je_int ja_nil)) (ja_cons (je_tup (ja_cons je_int ja_nil)) (ja_cons (je_tup (ja_cons je_int (ja_cons je_int ja_nil))) (ja_cons (je_tup (ja_cons je_int (ja_cons je_int ja_nil))) ja_nil)))))))))))))))))))))))
    (jss_cons (jset 1 nd (jm_e (je_op d_addB (jv 1) (je_ofL (jl_lst (ja_cons (je_tup (ja_cons je_bl ja_nil)) (ja_cons (je_tup (ja_cons je_int (ja_cons (je_tup (ja_cons je_int ja_nil)) ja_nil))) (ja_cons (je_tup (ja_cons je_int (ja_cons (je_tup (ja_cons je_int (ja_cons je_int ja_nil))) ja_nil))) (ja_cons (je_tup (ja_cons je_int (ja_cons (je_tup (ja_cons je_int (ja_cons je_int ja_nil))) ja_nil))) (ja_cons (je_tup (ja_cons je_int (ja_cons (je_tup (ja_cons je_int (ja_cons je_int ja_nil))) (ja_cons je_int ja_nil)))) (ja_cons (je_tup (ja_cons (je_tup (ja_cons je_int (ja_cons je_int ja_nil))) (ja_cons je_int ja_nil))) (ja_cons (je_tup (ja_cons (je_tup (ja_cons je_int ja_nil)) (ja_cons je_int ja_nil))) (ja_cons (je_tup (ja_cons je_str (ja_cons je_int ja_nil))) ja_nil)))))))))))))
    (jss_one (js_ret (je_call (m := [true, false]) F_Lone hr rfl q_Lone.g q_Lone.k q_Lone.b (ja_cons (jv 0) (ja_cons (je_op d_addB (jv 1) (je_ofL (jl_lst (ja_cons (je_tup (ja_cons je_non ja_nil)) (ja_cons (je_tup (ja_cons (je_neg je_int) ja_nil)) (ja_cons (je_tup (ja_cons je_int (ja_cons (je_tup (ja_cons (je_neg je_int) ja_nil)) ja_nil))) (ja_cons (je_tup (ja_cons je_int (ja_cons (je_tup (ja_cons je_bl (ja_cons je_int ja_nil))) ja_nil))) (ja_cons (je_tup (ja_cons je_int (ja_cons je_int ja_nil))) (ja_cons (je_tup (ja_cons (je_tup (ja_cons je_int (ja_cons je_int ja_nil))) (ja_cons (je_tup (ja_cons je_int (ja_cons je_int ja_nil))) ja_nil))) (ja_cons (je_tup (ja_cons (je_tup (ja_cons je_int ja_nil)) (ja_cons (je_tup (ja_cons je_int ja_nil)) ja_nil))) ja_nil)))))))))) ja_nil)))))))
set_option maxHeartbeats 0 in
theorem ok_Lmade {f : Addr} {fd : FuncData} (F : Fun K "_law_made" "_law_made" s_Lmade f fd) {TL : XNames} (x_BadBatch : XC0 K mg TL "BadBatch") (x_BadBox : XC1 P w K mg base TL "BadBox" "error") (x_BadKinds : XC1 P w K mg base TL "BadKinds" "error") (x_BadOrder : XC1 P w K mg base TL "BadOrder" "given") (x_BadPaper : XC1 P w K mg base TL "BadPaper" "given") (x_BadSide : XC1 P w K mg base TL "BadSide" "given") (x_BadText : XC1 P w K mg base TL "BadText" "place") (x_Busy : XC0 K mg TL "Busy") (x_NoAxis : XC1 P w K mg base TL "NoAxis" "given") (x_NoKind : XC1 P w K mg base TL "NoKind" "given") (x_NoNumber : XC1 P w K mg base TL "NoNumber" "number") (x_NoSeam : XC2 P w K mg base TL "NoSeam" "axis" "at") (x_NotFilled : XC1 P w K mg base TL "NotFilled" "reason") (x_NothingToUndo : XC0 K mg TL "NothingToUndo") (x_NoVersion : XC1 P w K mg base TL "NoVersion" "given") (x_Rejected : XC1 P w K mg base TL "Rejected" "index") (x_TooLarge : XC1 P w K mg base TL "TooLarge" "axis") (x_TooManyEdits : XC0 K mg TL "TooManyEdits") (x_Unfit : XC0 K mg TL "Unfit") (x_UnlikeAxes : XC0 K mg TL "UnlikeAxes") (tg : TLG K TL) : FnG P w K mg base CX0 3 f fd ["_law_one_here", "_law_two"] (liftM K sp_Lmade_k01) := by
  have nd := sc_Lmade.nd
  refine okN (wb := w_Lmade_k01) F sc_Lmade ln_Lmade_k01 (fun cdv A outer s H E hr => ?_) rd_Lmade_k01
  exact (jsn_cons (jset 2 nd (jm_vl (jvl_lst (jva_cons (jv_0 x_BadBatch tg rfl) (jva_cons (jv_1 x_BadBox tg (hr.mono (by decide)) rfl (ja_cons (jv 0) ja_nil)) (jva_cons (jv_1 x_BadKinds tg (hr.mono (by decide)) rfl (ja_cons (jv 0) ja_nil)) (jva_cons (jv_1 x_BadOrder tg (hr.mono (by decide)) rfl (ja_cons (jv 0) ja_nil)) (jva_cons (jv_1 x_BadPaper tg (hr.mono (by decide)) rfl (ja_cons (jv 0) ja_nil)) (jva_cons (jv_1 x_BadSide tg (hr.mono (by decide)) rfl (ja_cons (jv 0) ja_nil)) (jva_cons (jv_1 x_BadText tg (hr.mono (by decide)) rfl (ja_cons (jv 0) ja_nil)) (jva_cons (jv_0 x_Busy tg rfl) jva_nil)))))))))))
    (jsn_cons (jset 2 nd (jm_vl (jvl_add (jvl_var (jpv 2)) (jvl_lst (jva_cons (jv_1 x_NoAxis tg (hr.mono (by decide)) rfl (ja_cons (jv 0) ja_nil)) (jva_cons (jv_1 x_NoKind tg (hr.mono (by decide)) rfl (ja_cons (jv 0) ja_nil)) (jva_cons (jv_1 x_NoNumber tg (hr.mono (by decide)) rfl (ja_cons (jv 0) ja_nil)) (jva_cons (jv_2 x_NoSeam tg (hr.mono (by decide)) rfl (ja_cons (jv 0) (ja_cons (jv 1) ja_nil))) (jva_cons (jv_1 x_NotFilled tg (hr.mono (by decide)) rfl (ja_cons (jv 0) ja_nil)) (jva_cons (jv_0 x_NothingToUndo tg rfl) jva_nil))))))))))
    (jsn_ret (jm_vl (jvl_add (jvl_var (jpv 2)) (jvl_lst (jva_cons (jv_1 x_NoVersion tg (hr.mono (by decide)) rfl (ja_cons (jv 0) ja_nil)) (jva_cons (jv_1 x_Rejected tg (hr.mono (by decide)) rfl (ja_cons (jv 0) ja_nil)) (jva_cons (jv_1 x_TooLarge tg (hr.mono (by decide)) rfl (ja_cons (jv 0) ja_nil)) (jva_cons (jv_0 x_TooManyEdits tg rfl) (jva_cons (jv_0 x_Unfit tg rfl) (jva_cons (jv_0 x_UnlikeAxes tg rfl) jva_nil))))))))))))
set_option maxHeartbeats 0 in
theorem ok_Lclasses {f : Addr} {fd : FuncData} (F : Fun K "_law_classes" "_law_classes" s_Lclasses f fd) {TL : XNames} (z_isinstance : mg "isinstance" = none) (tn : TlN K TL erNs) (i_UnlikeAxes : IC K mg TL "UnlikeAxes" (fun n => n == "UnlikeAxes")) (i_Unfit : IC K mg TL "Unfit" (fun n => n == "Unfit")) (i_TooManyEdits : IC K mg TL "TooManyEdits" (fun n => n == "TooManyEdits")) (i_TooLarge : IC K mg TL "TooLarge" (fun n => n == "TooLarge")) (i_Rejected : IC K mg TL "Rejected" (fun n => n == "Rejected")) (i_NoVersion : IC K mg TL "NoVersion" (fun n => n == "NoVersion")) (i_NothingToUndo : IC K mg TL "NothingToUndo" (fun n => n == "NothingToUndo")) (i_NotFilled : IC K mg TL "NotFilled" (fun n => n == "NotFilled")) (i_NoSeam : IC K mg TL "NoSeam" (fun n => n == "NoSeam")) (i_NoNumber : IC K mg TL "NoNumber" (fun n => n == "NoNumber")) (i_NoKind : IC K mg TL "NoKind" (fun n => n == "NoKind")) (i_NoAxis : IC K mg TL "NoAxis" (fun n => n == "NoAxis")) (i_Busy : IC K mg TL "Busy" (fun n => n == "Busy")) (i_BadText : IC K mg TL "BadText" (fun n => n == "BadText")) (i_BadSide : IC K mg TL "BadSide" (fun n => n == "BadSide")) (i_BadPaper : IC K mg TL "BadPaper" (fun n => n == "BadPaper")) (i_BadOrder : IC K mg TL "BadOrder" (fun n => n == "BadOrder")) (i_BadKinds : IC K mg TL "BadKinds" (fun n => n == "BadKinds")) (i_BadBox : IC K mg TL "BadBox" (fun n => n == "BadBox")) (i_BadBatch : IC K mg TL "BadBatch" (fun n => n == "BadBatch")) (tl : TLok K TL) : FnG P w K mg base CX0 1 f fd ["_law_error"] (liftSp K sp_Lclasses) := by
  have nd := sc_Lclasses.nd
  refine okD (wb := w_Lclasses) F sc_Lclasses ln_Lclasses (fun cdv A outer s H E hr => ?_) rd_Lclasses
  exact (jss_cons (jset 1 nd (jm_e (je_ofL (jl_lst (ja_cons (je_vis tl tn i_BadBatch (jv_var (jpv 0)) rfl rfl z_isinstance) (ja_cons (je_vis tl tn i_BadBox (jv_var (jpv 0)) rfl rfl z_isinstance) (ja_cons (je_vis tl tn i_BadKinds (jv_var (jpv 0)) rfl rfl z_isinstance) ja_nil)))))))
    (jss_cons (jset 1 nd (jm_e (je_op d_addB (jv 1) (je_ofL (jl_lst (ja_cons (je_vis tl tn i_BadOrder (jv_var (jpv 0)) rfl rfl z_isinstance) (ja_cons (je_vis tl tn i_BadPaper (jv_var (jpv 0)) rfl rfl z_isinstance) (ja_cons (je_vis tl tn i_BadSide (jv_var (jpv 0)) rfl rfl z_isinstance) ja_nil))))))))
    (jss_cons (jset 1 nd (jm_e (je_op d_addB (jv 1) (je_ofL (jl_lst (ja_cons (je_vis tl tn i_BadText (jv_var (jpv 0)) rfl rfl z_isinstance) (ja_cons (je_vis tl tn i_Busy (jv_var (jpv 0)) rfl rfl z_isinstance) (ja_cons (je_vis tl tn i_NoAxis (jv_var (jpv 0)) rfl rfl z_isinstance) ja_nil))))))))
    (jss_cons (jset 1 nd (jm_e (je_op d_addB (jv 1) (je_ofL (jl_lst (ja_cons (je_vis tl tn i_NoKind (jv_var (jpv 0)) rfl rfl z_isinstance) (ja_cons (je_vis tl tn i_NoNumber (jv_var (jpv 0)) rfl rfl z_isinstance) (ja_cons (je_vis tl tn i_NoSeam (jv_var (jpv 0)) rfl rfl z_isinstance) ja_nil))))))))
    (jss_cons (jset 1 nd (jm_e (je_op d_addB (jv 1) (je_ofL (jl_lst (ja_cons (je_vis tl tn i_NotFilled (jv_var (jpv 0)) rfl rfl z_isinstance) (ja_cons (je_vis tl tn i_NothingToUndo (jv_var (jpv 0)) rfl rfl z_isinstance) (ja_cons (je_vis tl tn i_NoVersion (jv_var (jpv 0)) rfl rfl z_isinstance) ja_nil))))))))
    (jss_cons (jset 1 nd (jm_e (je_op d_addB (jv 1) (je_ofL (jl_lst (ja_cons (je_vis tl tn i_Rejected (jv_var (jpv 0)) rfl rfl z_isinstance) (ja_cons (je_vis tl tn i_TooLarge (jv_var (jpv 0)) rfl rfl z_isinstance) (ja_cons (je_vis tl tn i_TooManyEdits (jv_var (jpv 0)) rfl rfl z_isinstance) ja_nil))))))))
    (jss_one (js_ret (je_op d_addB (jv 1) (je_ofL (jl_lst (ja_cons (je_vis tl tn i_Unfit (jv_var (jpv 0)) rfl rfl z_isinstance) (ja_cons (je_vis tl tn i_UnlikeAxes (jv_var (jpv 0)) rfl rfl z_isinstance) ja_nil)))))))))))))
set_option maxHeartbeats 0 in
theorem ok_Lfields {f : Addr} {fd : FuncData} (F : Fun K "_law_fields" "_law_fields" s_Lfields f fd) {TL : XNames} (xk_TooLarge : XC1K P w K mg base TL "TooLarge" "axis") (xk_Rejected : XC1K P w K mg base TL "Rejected" "index") (xk_NoVersion : XC1K P w K mg base TL "NoVersion" "given") (xk_NotFilled : XC1K P w K mg base TL "NotFilled" "reason") (xk_NoSeam : XC2K P w K mg base TL "NoSeam" "axis" "at") (xk_NoNumber : XC1K P w K mg base TL "NoNumber" "number") (xk_NoKind : XC1K P w K mg base TL "NoKind" "given") (xk_NoAxis : XC1K P w K mg base TL "NoAxis" "given") (xk_BadText : XC1K P w K mg base TL "BadText" "place") (xk_BadSide : XC1K P w K mg base TL "BadSide" "given") (xk_BadPaper : XC1K P w K mg base TL "BadPaper" "given") (xk_BadOrder : XC1K P w K mg base TL "BadOrder" "given") (xk_BadKinds : XC1K P w K mg base TL "BadKinds" "error") (xk_BadBox : XC1K P w K mg base TL "BadBox" "error") (tg : TLG K TL) (tn : TlN K TL erNs) (tl : TLok K TL) (fc_axis : FC K TL "axis") (fc_index : FC K TL "index") (fc_given : FC K TL "given") (fc_reason : FC K TL "reason") (fc_number : FC K TL "number") (fc_place : FC K TL "place") (fc_error : FC K TL "error") : FnG P w K mg base CX0 3 f fd ["_law_one_here", "_law_two"] (liftSp K sp_Lfields) := by
  have nd := sc_Lfields.nd
  refine okD (wb := w_Lfields) F sc_Lfields ln_Lfields (fun cdv A outer s H E hr => ?_) rd_Lfields
  exact (jss_cons (jset 2 nd (jm_e (je_ofL (jl_lst (ja_cons (je_vf tl tn fc_error (jv_1K xk_BadBox tg (hr.mono (by decide)) rfl (jk_cons (jv 0) jk_nil))) (ja_cons (je_vf tl tn fc_error (jv_1K xk_BadKinds tg (hr.mono (by decide)) rfl (jk_cons (jv 0) jk_nil))) (ja_cons (je_vf tl tn fc_given (jv_1K xk_BadOrder tg (hr.mono (by decide)) rfl (jk_cons (jv 0) jk_nil))) (ja_cons (je_vf tl tn fc_given (jv_1K xk_BadPaper tg (hr.mono (by decide)) rfl (jk_cons (jv 0) jk_nil))) ja_nil))))))))
    (jss_cons (jset 2 nd (jm_e (je_op d_addB (jv 2) (je_ofL (jl_lst (ja_cons (je_vf tl tn fc_given (jv_1K xk_BadSide tg (hr.mono (by decide)) rfl (jk_cons (jv 0) jk_nil))) (ja_cons (je_vf tl tn fc_place (jv_1K xk_BadText tg (hr.mono (by decide)) rfl (jk_cons (jv 0) jk_nil))) (ja_cons (je_vf tl tn fc_given (jv_1K xk_NoAxis tg (hr.mono (by decide)) rfl (jk_cons (jv 0) jk_nil))) (ja_cons (je_vf tl tn fc_given (jv_1K xk_NoKind tg (hr.mono (by decide)) rfl (jk_cons (jv 0) jk_nil))) ja_nil)))))))))
    (jss_cons (jset 2 nd (jm_e (je_op d_addB (jv 2) (je_ofL (jl_lst (ja_cons (je_vf tl tn fc_number (jv_1K xk_NoNumber tg (hr.mono (by decide)) rfl (jk_cons (jv 0) jk_nil))) (ja_cons (je_vf tl tn fc_axis (jv_2K xk_NoSeam tg (hr.mono (by decide)) rfl (jk_cons (jv 1) (jk_cons (jv 0) jk_nil)))) (ja_cons (je_vf tl tn fc_reason (jv_1K xk_NotFilled tg (hr.mono (by decide)) rfl (jk_cons (jv 0) jk_nil))) ja_nil))))))))
    (jss_one (js_ret (je_op d_addB (jv 2) (je_ofL (jl_lst (ja_cons (je_vf tl tn fc_given (jv_1K xk_NoVersion tg (hr.mono (by decide)) rfl (jk_cons (jv 0) jk_nil))) (ja_cons (je_vf tl tn fc_index (jv_1K xk_Rejected tg (hr.mono (by decide)) rfl (jk_cons (jv 0) jk_nil))) (ja_cons (je_vf tl tn fc_axis (jv_1K xk_TooLarge tg (hr.mono (by decide)) rfl (jk_cons (jv 0) jk_nil))) ja_nil)))))))))))
set_option maxHeartbeats 0 in
theorem ok_law {f : Addr} {fd : FuncData} (F : Fun K "law" "law" s_law f fd) {TL : XNames} (z_range : mg "range" = none) (z_repr : mg "repr" = none) (z_isinstance : mg "isinstance" = none) (z_ValueError : mg "ValueError" = none) {t_BATCH : Tok} (c_BATCH : mg "BATCH" = some (.int 20 t_BATCH)) {t_HISTORY : Tok} (c_HISTORY : mg "HISTORY" = some (.int 30 t_HISTORY)) {t_MAX_ROWS : Tok} (c_MAX_ROWS : mg "MAX_ROWS" = some (.int 1000 t_MAX_ROWS)) {t_MAX_FEW : Tok} (c_MAX_FEW : mg "MAX_FEW" = some (.int 20 t_MAX_FEW)) {t_MAX_CELLS : Tok} (c_MAX_CELLS : mg "MAX_CELLS" = some (.int 400 t_MAX_CELLS)) {t_MAX_KINDS : Tok} (c_MAX_KINDS : mg "MAX_KINDS" = some (.int 4 t_MAX_KINDS)) {t_MAX_SIDE : Tok} (c_MAX_SIDE : mg "MAX_SIDE" = some (.int 1000000000000 t_MAX_SIDE)) {t_MAX_DIMS : Tok} (c_MAX_DIMS : mg "MAX_DIMS" = some (.int 4 t_MAX_DIMS)) {f_Lfields : Addr} {fd_Lfields : FuncData} (F_Lfields : FnG P w K mg base CX0 3 f_Lfields fd_Lfields ["_law_one_here", "_law_two"] (liftSp K sp_Lfields)) (q_Lfields : Gkb K mg "_law_fields" f_Lfields fd_Lfields ["_law_one_here", "_law_two"]) {f_Lclasses : Addr} {fd_Lclasses : FuncData} (F_Lclasses : FnG P w K mg base CX0 1 f_Lclasses fd_Lclasses ["_law_error"] (liftSp K sp_Lclasses)) (q_Lclasses : Gkb K mg "_law_classes" f_Lclasses fd_Lclasses ["_law_error"]) {f_Lmade : Addr} {fd_Lmade : FuncData} (F_Lmade : FnG P w K mg base CX0 3 f_Lmade fd_Lmade ["_law_one_here", "_law_two"] (liftM K sp_Lmade_k01)) (q_Lmade : Gkb K mg "_law_made" f_Lmade fd_Lmade ["_law_one_here", "_law_two"]) {f_Lodd : Addr} {fd_Lodd : FuncData} (F_Lodd : FnG P w K mg base CX0 3 f_Lodd fd_Lodd ["_law_deck_here"] (liftSp K sp_Lodd)) (q_Lodd : Gkb K mg "_law_odd" f_Lodd fd_Lodd ["_law_deck_here"]) {f_Ldeck : Addr} {fd_Ldeck : FuncData} (F_Ldeck : FnG P w K mg base CX0 1 f_Ldeck fd_Ldeck ["_law_script"] (liftM K sp_Ldeck)) (q_Ldeck : Gkb K mg "_law_deck" f_Ldeck fd_Ldeck ["_law_script"]) (xk_NoSeam : XC2K P w K mg base TL "NoSeam" "axis" "at") (tg : TLG K TL) (tn : TlN K TL erNs) (i_ValueError : ICb K mg TL "ValueError" (fun _ => true)) (i_BrickError : IC K mg TL "BrickError" (fun _ => true)) (tl : TLok K TL) (fc_at : FC K TL "at") (fc_axis : FC K TL "axis") (fc_index : FC K TL "index") (fc_given : FC K TL "given") (fc_reason : FC K TL "reason") (fc_number : FC K TL "number") (fc_place : FC K TL "place") (fc_error : FC K TL "error") : FnG P w K mg base CX0 4 f fd ["_law_script"] (liftSp K sp_law) := by
  have nd := sc_law.nd
  replace F_Lfields := F_Lfields.mono (show 3 ≤ 3 by decide)
  replace F_Lclasses := F_Lclasses.mono (show 1 ≤ 3 by decide)
  replace F_Lmade := F_Lmade.mono (show 3 ≤ 3 by decide)
  replace F_Lodd := F_Lodd.mono (show 3 ≤ 3 by decide)
  replace F_Ldeck := F_Ldeck.mono (show 1 ≤ 3 by decide)
  refine okD (wb := w_law) F sc_law ln_law (fun cdv A outer s H E hr => ?_) rd_law
  exact (jss_cons (jset 1 nd (jm_call (m := [true]) F_Ldeck hr rfl q_Ldeck.g q_Ldeck.k q_Ldeck.b (ja_cons (jv 0) ja_nil)))
    (jss_cons (jset 2 nd (jm_e (je_ofL (jl_lst (ja_cons (je_glob (v := .int 4) rfl c_MAX_DIMS ⟨_, rfl⟩ (fun _ _ => .int _)) (ja_cons (je_glob (v := .int 1000000000000) rfl c_MAX_SIDE ⟨_, rfl⟩ (fun _ _ => .int _)) (ja_cons (je_glob (v := .int 4) rfl c_MAX_KINDS ⟨_, rfl⟩ (fun _ _ => .int _)) (ja_cons (je_glob (v := .int 400) rfl c_MAX_CELLS ⟨_, rfl⟩ (fun _ _ => .int _)) (ja_cons (je_glob (v := .int 20) rfl c_MAX_FEW ⟨_, rfl⟩ (fun _ _ => .int _)) (ja_cons (je_glob (v := .int 1000) rfl c_MAX_ROWS ⟨_, rfl⟩ (fun _ _ => .int _)) (ja_cons (je_glob (v := .int 30) rfl c_HISTORY ⟨_, rfl⟩ (fun _ _ => .int _)) (ja_cons (je_glob (v := .int 20) rfl c_BATCH ⟨_, rfl⟩ (fun _ _ => .int _)) ja_nil))))))))))))
    (jss_cons (js_if (jt_cmp (d_ne hr.u64) (je_fn (c_reprN hr.gd hr.u64) rfl z_repr boot_repr (ja_cons (jv 2) ja_nil)) (je_fn (c_reprN hr.gd hr.u64) rfl z_repr boot_repr (ja_cons (je_ofL (jl_lst (ja_cons je_int (ja_cons (je_op d_pow je_int je_int) (ja_cons je_int (ja_cons je_int (ja_cons je_int (ja_cons je_int (ja_cons je_int (ja_cons je_int ja_nil)))))))))) ja_nil))) (jss_one (js_ret je_bl)) jss_nil)
    (jss_cons (js_for PassesOwn.never rfl (ji_range1 rfl z_range (ja_cons je_int ja_nil)) (jgn 3 nd) (jss_cons (jpar (i := 4) (j := 5) rfl nd rfl rfl (by decide) (jms_cons (jm_e (je_call (m := [true]) F_Lodd hr rfl q_Lodd.g q_Lodd.k q_Lodd.b (ja_cons (jv 1) ja_nil))) (jms_cons (jm_e (je_call (m := [true]) F_Lodd hr rfl q_Lodd.g q_Lodd.k q_Lodd.b (ja_cons (jv 1) ja_nil))) jms_nil)))
    (jss_cons (jset 6 nd (jm_call (m := []) F_Lmade hr rfl q_Lmade.g q_Lmade.k q_Lmade.b (ja_cons (jv 4) (ja_cons (jv 5) ja_nil))))
    (jss_cons (js_for PassesOwn.never rfl (ji_range1 rfl z_range (ja_cons je_int ja_nil)) (jgn 7 nd) (jss_cons (js_if (jt_cmp (d_ne hr.u64) (je_callE F_Lclasses hr rfl q_Lclasses.g q_Lclasses.k q_Lclasses.b (jv_ix (jvl_var (jpv 6)) (jv 7) (fun _ _ => rfl))) (je_ofL (jl_comp (own := [("_law_own", 8)]) rfl nd (ji_range1 rfl z_range (ja_cons je_int ja_nil)) (blkOk_by (by kernel_rfl)) (by decide) (fun _ _ _ _ _ => (jgn 8 nd)) (fun _ _ _ _ _ => jts_nil) (fun _ _ _ _ _ => (je_cmp (d_eq hr.u64) (jv 7) (jv 8)))))) (jss_one (js_ret je_bl)) jss_nil)
    (jss_one (js_if (jt_w (jw_or (jt_not (jt_val (je_vis tl tn i_BrickError (jv_ix (jvl_var (jpv 6)) (jv 7) (fun _ _ => rfl)) rfl rfl z_isinstance))) (jw_or1 (jt_not (jt_val (je_visb tl tn i_ValueError (jv_ix (jvl_var (jpv 6)) (jv 7) (fun _ _ => rfl)) rfl rfl z_isinstance)))))) (jss_one (js_ret je_bl)) jss_nil))))
    (jss_cons (jset 9 nd (jm_e (je_ofL (jl_lst (ja_cons (je_vf tl tn fc_error (jv_ix (jvl_var (jpv 6)) je_int (fun _ _ => rfl))) (ja_cons (je_vf tl tn fc_error (jv_ix (jvl_var (jpv 6)) je_int (fun _ _ => rfl))) (ja_cons (je_vf tl tn fc_given (jv_ix (jvl_var (jpv 6)) je_int (fun _ _ => rfl))) (ja_cons (je_vf tl tn fc_given (jv_ix (jvl_var (jpv 6)) je_int (fun _ _ => rfl))) (ja_cons (je_vf tl tn fc_given (jv_ix (jvl_var (jpv 6)) je_int (fun _ _ => rfl))) (ja_cons (je_vf tl tn fc_place (jv_ix (jvl_var (jpv 6)) je_int (fun _ _ => rfl))) ja_nil))))))))))
    (jss_cons (jset 9 nd (jm_e (je_op d_addB (jv 9) (je_ofL (jl_lst (ja_cons (je_vf tl tn fc_given (jv_ix (jvl_var (jpv 6)) je_int (fun _ _ => rfl))) (ja_cons (je_vf tl tn fc_given (jv_ix (jvl_var (jpv 6)) je_int (fun _ _ => rfl))) (ja_cons (je_vf tl tn fc_number (jv_ix (jvl_var (jpv 6)) je_int (fun _ _ => rfl))) (ja_cons (je_vf tl tn fc_axis (jv_ix (jvl_var (jpv 6)) je_int (fun _ _ => rfl))) (ja_cons (je_vf tl tn fc_reason (jv_ix (jvl_var (jpv 6)) je_int (fun _ _ => rfl))) ja_nil))))))))))
    (jss_cons (jset 9 nd (jm_e (je_op d_addB (jv 9) (je_ofL (jl_lst (ja_cons (je_vf tl tn fc_given (jv_ix (jvl_var (jpv 6)) je_int (fun _ _ => rfl))) (ja_cons (je_vf tl tn fc_index (jv_ix (jvl_var (jpv 6)) je_int (fun _ _ => rfl))) (ja_cons (je_vf tl tn fc_axis (jv_ix (jvl_var (jpv 6)) je_int (fun _ _ => rfl))) ja_nil))))))))
    (jss_cons (js_if (jt_w (jw_or (jt_cmp (d_ne hr.u64) (je_fn (c_reprN hr.gd hr.u64) rfl z_repr boot_repr (ja_cons (jv 9) ja_nil)) (je_fn (c_reprN hr.gd hr.u64) rfl z_repr boot_repr (ja_cons (je_op d_mulT (je_ofL (jl_lst (ja_cons (jv 4) ja_nil))) je_int) ja_nil))) (jw_or1 (jt_cmp (d_ne hr.u64) (je_fn (c_reprN hr.gd hr.u64) rfl z_repr boot_repr (ja_cons (je_call (m := []) F_Lfields hr rfl q_Lfields.g q_Lfields.k q_Lfields.b (ja_cons (jv 4) (ja_cons (jv 5) ja_nil))) ja_nil)) (je_fn (c_reprN hr.gd hr.u64) rfl z_repr boot_repr (ja_cons (je_op d_mulT (je_ofL (jl_lst (ja_cons (jv 4) ja_nil))) je_int) ja_nil)))))) (jss_one (js_ret je_bl)) jss_nil)
    (jss_one (js_if (jt_cmp (d_ne hr.u64) (je_fn (c_reprN hr.gd hr.u64) rfl z_repr boot_repr (ja_cons (je_ofL (jl_lst (ja_cons (je_vf tl tn fc_at (jv_ix (jvl_var (jpv 6)) je_int (fun _ _ => rfl))) (ja_cons (je_vf tl tn fc_at (jv_2K xk_NoSeam tg (hr.mono (by decide)) rfl (jk_cons (jv 5) (jk_cons (jv 4) jk_nil)))) ja_nil)))) ja_nil)) (je_fn (c_reprN hr.gd hr.u64) rfl z_repr boot_repr (ja_cons (je_ofL (jl_lst (ja_cons (jv 5) (ja_cons (jv 5) ja_nil)))) ja_nil))) (jss_one (js_ret je_bl)) jss_nil))))))))))
    (jss_one (js_ret je_bl))))))
end K01
set_option Elab.async false
set_option linter.all false
set_option maxRecDepth 100000
set_option maxHeartbeats 4000000
namespace K01
open PySem PySem.Spec PyProof.Rows L2 DL TW
def tbK (K : W.Frag) : DL.Tb := ⟨[]⟩
theorem all_mk {w : World} {K : W.Frag} {h : Heap} {mg : Str → Option Value} {fa : Addr} (X : K.In h) (G : h.Ns mainGlobals mg) (hfa : mg "law" = some (.ref fa)) (T : Told defs asks tabs h K) :
    ∃ fd : FuncData, OneArgT PySem.Challenge.rw_twobricks_k01_errors_and_bounds.prog w K mg 4 fa "_law_script" (letI : DL.Tb := tbK K; liftSp K spLaw) (tabs.map (He.cT K)) fd := by
  letI : DL.Tb := tbK K
  have a_law : W.nsIn K mainGlobals "law" = some (some (.ref (He.ga K "law"))) := aG_ok (T.x 0 _ rfl)
  have e := hfa.symm.trans (W.mg_of X G a_law)
  cases e
  have a_Ldeck : W.nsIn K mainGlobals "_law_deck" = some (some (.ref (He.ga K "_law_deck"))) := aG_ok (T.x 1 _ rfl)
  obtain ⟨fd_Ldeck, (F_Ldeck : Fun K "_law_deck" "_law_deck" s_Ldeck (He.ga K "_law_deck") fd_Ldeck)⟩ := T.fn 0 (d := ⟨fun K => He.ga K "_law_deck", "_law_deck", "_law_deck", s_Ldeck, []⟩) rfl rfl
  have k_Ldeck := F_Ldeck.kp
  have b_Ldeck := F_Ldeck.binds (ps := ["_law_script"]) fun _ _ _ _ _ _ us hl => match us, hl with | [_], _ => rfl
  have a_Ldraw : W.nsIn K mainGlobals "_law_draw" = some (some (.ref (He.ga K "_law_draw"))) := aG_ok (T.x 2 _ rfl)
  obtain ⟨fd_Ldraw, (F_Ldraw : Fun K "_law_draw" "_law_draw" s_Ldraw (He.ga K "_law_draw") fd_Ldraw)⟩ := T.fn 1 (d := ⟨fun K => He.ga K "_law_draw", "_law_draw", "_law_draw", s_Ldraw, []⟩) rfl rfl
  have k_Ldraw := F_Ldraw.kp
  have b_Ldraw := F_Ldraw.binds (ps := ["_law_deck_here", "_law_many"]) fun _ _ _ _ _ _ us hl => match us, hl with | [_, _], _ => rfl
  have a_Lone : W.nsIn K mainGlobals "_law_one" = some (some (.ref (He.ga K "_law_one"))) := aG_ok (T.x 3 _ rfl)
  obtain ⟨fd_Lone, (F_Lone : Fun K "_law_one" "_law_one" s_Lone (He.ga K "_law_one") fd_Lone)⟩ := T.fn 2 (d := ⟨fun K => He.ga K "_law_one", "_law_one", "_law_one", s_Lone, []⟩) rfl rfl
  have k_Lone := F_Lone.kp
  have b_Lone := F_Lone.binds (ps := ["_law_deck_here", "_law_items"]) fun _ _ _ _ _ _ us hl => match us, hl with | [_, _], _ => rfl
  have a_Lodd : W.nsIn K mainGlobals "_law_odd" = some (some (.ref (He.ga K "_law_odd"))) := aG_ok (T.x 4 _ rfl)
  obtain ⟨fd_Lodd, (F_Lodd : Fun K "_law_odd" "_law_odd" s_Lodd (He.ga K "_law_odd") fd_Lodd)⟩ := T.fn 3 (d := ⟨fun K => He.ga K "_law_odd", "_law_odd", "_law_odd", s_Lodd, []⟩) rfl rfl
  have k_Lodd := F_Lodd.kp
  have b_Lodd := F_Lodd.binds (ps := ["_law_deck_here"]) fun _ _ _ _ _ _ us hl => match us, hl with | [_], _ => rfl
  have a_Lmade : W.nsIn K mainGlobals "_law_made" = some (some (.ref (He.ga K "_law_made"))) := aG_ok (T.x 5 _ rfl)
  obtain ⟨fd_Lmade, (F_Lmade : Fun K "_law_made" "_law_made" s_Lmade (He.ga K "_law_made") fd_Lmade)⟩ := T.fn 4 (d := ⟨fun K => He.ga K "_law_made", "_law_made", "_law_made", s_Lmade, []⟩) rfl rfl
  have k_Lmade := F_Lmade.kp
  have b_Lmade := F_Lmade.binds (ps := ["_law_one_here", "_law_two"]) fun _ _ _ _ _ _ us hl => match us, hl with | [_, _], _ => rfl
  have a_Lclasses : W.nsIn K mainGlobals "_law_classes" = some (some (.ref (He.ga K "_law_classes"))) := aG_ok (T.x 6 _ rfl)
  obtain ⟨fd_Lclasses, (F_Lclasses : Fun K "_law_classes" "_law_classes" s_Lclasses (He.ga K "_law_classes") fd_Lclasses)⟩ := T.fn 5 (d := ⟨fun K => He.ga K "_law_classes", "_law_classes", "_law_classes", s_Lclasses, []⟩) rfl rfl
  have k_Lclasses := F_Lclasses.kp
  have b_Lclasses := F_Lclasses.binds (ps := ["_law_error"]) fun _ _ _ _ _ _ us hl => match us, hl with | [_], _ => rfl
  have a_Lfields : W.nsIn K mainGlobals "_law_fields" = some (some (.ref (He.ga K "_law_fields"))) := aG_ok (T.x 7 _ rfl)
  obtain ⟨fd_Lfields, (F_Lfields : Fun K "_law_fields" "_law_fields" s_Lfields (He.ga K "_law_fields") fd_Lfields)⟩ := T.fn 6 (d := ⟨fun K => He.ga K "_law_fields", "_law_fields", "_law_fields", s_Lfields, []⟩) rfl rfl
  have k_Lfields := F_Lfields.kp
  have b_Lfields := F_Lfields.binds (ps := ["_law_one_here", "_law_two"]) fun _ _ _ _ _ _ us hl => match us, hl with | [_, _], _ => rfl
  obtain ⟨fd_law, (F_law : Fun K "law" "law" s_law (He.ga K "law") fd_law)⟩ := T.fn 7 (d := ⟨fun K => He.ga K "law", "law", "law", s_law, []⟩) rfl rfl
  have k_law := F_law.kp
  have z_abs : W.nsIn K mainGlobals "abs" = some none := aZ_ok (T.x 8 _ rfl)
  have z_len : W.nsIn K mainGlobals "len" = some none := aZ_ok (T.x 9 _ rfl)
  have z_int : W.nsIn K mainGlobals "int" = some none := aZ_ok (T.x 10 _ rfl)
  have z_isinstance : W.nsIn K mainGlobals "isinstance" = some none := aZ_ok (T.x 11 _ rfl)
  have z_range : W.nsIn K mainGlobals "range" = some none := aZ_ok (T.x 12 _ rfl)
  have z_repr : W.nsIn K mainGlobals "repr" = some none := aZ_ok (T.x 13 _ rfl)
  have z_ValueError : W.nsIn K mainGlobals "ValueError" = some none := aZ_ok (T.x 14 _ rfl)
  obtain ⟨t_BATCH, v_BATCH⟩ := aI_ok X G (x := "BATCH") (i := 20) (T.x 15 _ rfl)
  obtain ⟨t_HISTORY, v_HISTORY⟩ := aI_ok X G (x := "HISTORY") (i := 30) (T.x 16 _ rfl)
  obtain ⟨t_MAX_ROWS, v_MAX_ROWS⟩ := aI_ok X G (x := "MAX_ROWS") (i := 1000) (T.x 17 _ rfl)
  obtain ⟨t_MAX_FEW, v_MAX_FEW⟩ := aI_ok X G (x := "MAX_FEW") (i := 20) (T.x 18 _ rfl)
  obtain ⟨t_MAX_CELLS, v_MAX_CELLS⟩ := aI_ok X G (x := "MAX_CELLS") (i := 400) (T.x 19 _ rfl)
  obtain ⟨t_MAX_KINDS, v_MAX_KINDS⟩ := aI_ok X G (x := "MAX_KINDS") (i := 4) (T.x 20 _ rfl)
  obtain ⟨t_MAX_SIDE, v_MAX_SIDE⟩ := aI_ok X G (x := "MAX_SIDE") (i := 1000000000000) (T.x 21 _ rfl)
  obtain ⟨t_MAX_DIMS, v_MAX_DIMS⟩ := aI_ok X G (x := "MAX_DIMS") (i := 4) (T.x 22 _ rfl)
  have ac_BadBatch : W.nsIn K mainGlobals "BadBatch" = some (some (.ref (He.ga K "BadBatch"))) := aG_ok (T.x 23 _ rfl)
  have cf_BadBatch : CF K "BadBatch" (He.ga K "BadBatch") := aCF_ok (T.x 24 _ rfl)
  have ac_BadBox : W.nsIn K mainGlobals "BadBox" = some (some (.ref (He.ga K "BadBox"))) := aG_ok (T.x 25 _ rfl)
  have cf_BadBox : CF K "BadBox" (He.ga K "BadBox") := aCF_ok (T.x 26 _ rfl)
  have ac_BadKinds : W.nsIn K mainGlobals "BadKinds" = some (some (.ref (He.ga K "BadKinds"))) := aG_ok (T.x 27 _ rfl)
  have cf_BadKinds : CF K "BadKinds" (He.ga K "BadKinds") := aCF_ok (T.x 28 _ rfl)
  have ac_BadOrder : W.nsIn K mainGlobals "BadOrder" = some (some (.ref (He.ga K "BadOrder"))) := aG_ok (T.x 29 _ rfl)
  have cf_BadOrder : CF K "BadOrder" (He.ga K "BadOrder") := aCF_ok (T.x 30 _ rfl)
  have ac_BadPaper : W.nsIn K mainGlobals "BadPaper" = some (some (.ref (He.ga K "BadPaper"))) := aG_ok (T.x 31 _ rfl)
  have cf_BadPaper : CF K "BadPaper" (He.ga K "BadPaper") := aCF_ok (T.x 32 _ rfl)
  have ac_BadSide : W.nsIn K mainGlobals "BadSide" = some (some (.ref (He.ga K "BadSide"))) := aG_ok (T.x 33 _ rfl)
  have cf_BadSide : CF K "BadSide" (He.ga K "BadSide") := aCF_ok (T.x 34 _ rfl)
  have ac_BadText : W.nsIn K mainGlobals "BadText" = some (some (.ref (He.ga K "BadText"))) := aG_ok (T.x 35 _ rfl)
  have cf_BadText : CF K "BadText" (He.ga K "BadText") := aCF_ok (T.x 36 _ rfl)
  have ac_Busy : W.nsIn K mainGlobals "Busy" = some (some (.ref (He.ga K "Busy"))) := aG_ok (T.x 37 _ rfl)
  have cf_Busy : CF K "Busy" (He.ga K "Busy") := aCF_ok (T.x 38 _ rfl)
  have ac_NoAxis : W.nsIn K mainGlobals "NoAxis" = some (some (.ref (He.ga K "NoAxis"))) := aG_ok (T.x 39 _ rfl)
  have cf_NoAxis : CF K "NoAxis" (He.ga K "NoAxis") := aCF_ok (T.x 40 _ rfl)
  have ac_NoKind : W.nsIn K mainGlobals "NoKind" = some (some (.ref (He.ga K "NoKind"))) := aG_ok (T.x 41 _ rfl)
  have cf_NoKind : CF K "NoKind" (He.ga K "NoKind") := aCF_ok (T.x 42 _ rfl)
  have ac_NoNumber : W.nsIn K mainGlobals "NoNumber" = some (some (.ref (He.ga K "NoNumber"))) := aG_ok (T.x 43 _ rfl)
  have cf_NoNumber : CF K "NoNumber" (He.ga K "NoNumber") := aCF_ok (T.x 44 _ rfl)
  have ac_NoSeam : W.nsIn K mainGlobals "NoSeam" = some (some (.ref (He.ga K "NoSeam"))) := aG_ok (T.x 45 _ rfl)
  have cf_NoSeam : CF K "NoSeam" (He.ga K "NoSeam") := aCF_ok (T.x 46 _ rfl)
  have ac_NotFilled : W.nsIn K mainGlobals "NotFilled" = some (some (.ref (He.ga K "NotFilled"))) := aG_ok (T.x 47 _ rfl)
  have cf_NotFilled : CF K "NotFilled" (He.ga K "NotFilled") := aCF_ok (T.x 48 _ rfl)
  have ac_NothingToUndo : W.nsIn K mainGlobals "NothingToUndo" = some (some (.ref (He.ga K "NothingToUndo"))) := aG_ok (T.x 49 _ rfl)
  have cf_NothingToUndo : CF K "NothingToUndo" (He.ga K "NothingToUndo") := aCF_ok (T.x 50 _ rfl)
  have ac_NoVersion : W.nsIn K mainGlobals "NoVersion" = some (some (.ref (He.ga K "NoVersion"))) := aG_ok (T.x 51 _ rfl)
  have cf_NoVersion : CF K "NoVersion" (He.ga K "NoVersion") := aCF_ok (T.x 52 _ rfl)
  have ac_Rejected : W.nsIn K mainGlobals "Rejected" = some (some (.ref (He.ga K "Rejected"))) := aG_ok (T.x 53 _ rfl)
  have cf_Rejected : CF K "Rejected" (He.ga K "Rejected") := aCF_ok (T.x 54 _ rfl)
  have ac_TooLarge : W.nsIn K mainGlobals "TooLarge" = some (some (.ref (He.ga K "TooLarge"))) := aG_ok (T.x 55 _ rfl)
  have cf_TooLarge : CF K "TooLarge" (He.ga K "TooLarge") := aCF_ok (T.x 56 _ rfl)
  have ac_TooManyEdits : W.nsIn K mainGlobals "TooManyEdits" = some (some (.ref (He.ga K "TooManyEdits"))) := aG_ok (T.x 57 _ rfl)
  have cf_TooManyEdits : CF K "TooManyEdits" (He.ga K "TooManyEdits") := aCF_ok (T.x 58 _ rfl)
  have ac_Unfit : W.nsIn K mainGlobals "Unfit" = some (some (.ref (He.ga K "Unfit"))) := aG_ok (T.x 59 _ rfl)
  have cf_Unfit : CF K "Unfit" (He.ga K "Unfit") := aCF_ok (T.x 60 _ rfl)
  have ac_UnlikeAxes : W.nsIn K mainGlobals "UnlikeAxes" = some (some (.ref (He.ga K "UnlikeAxes"))) := aG_ok (T.x 61 _ rfl)
  have cf_UnlikeAxes : CF K "UnlikeAxes" (He.ga K "UnlikeAxes") := aCF_ok (T.x 62 _ rfl)
  have xc_BadBatch : XC0 K mg [("BadBatch", (He.ga K "BadBatch")), ("BadBox", (He.ga K "BadBox")), ("BadKinds", (He.ga K "BadKinds")), ("BadOrder", (He.ga K "BadOrder")), ("BadPaper", (He.ga K "BadPaper")), ("BadSide", (He.ga K "BadSide")), ("BadText", (He.ga K "BadText")), ("Busy", (He.ga K "Busy")), ("NoAxis", (He.ga K "NoAxis")), ("NoKind", (He.ga K "NoKind")), ("NoNumber", (He.ga K "NoNumber")), ("NoSeam", (He.ga K "NoSeam")), ("NotFilled", (He.ga K "NotFilled")), ("NothingToUndo", (He.ga K "NothingToUndo")), ("NoVersion", (He.ga K "NoVersion")), ("Rejected", (He.ga K "Rejected")), ("TooLarge", (He.ga K "TooLarge")), ("TooManyEdits", (He.ga K "TooManyEdits")), ("Unfit", (He.ga K "Unfit")), ("UnlikeAxes", (He.ga K "UnlikeAxes"))] "BadBatch" := xc0_mk X G (by simp) cf_BadBatch ac_BadBatch (T.x 63 _ rfl)
  have xa_BadBox : XFa K "BadBox" ["error"] "/claim/cut.py" "BadBox.__init__" sx_BadBox := aX_ok (T.x 64 _ rfl) (T.d 8 _ rfl).1 (T.d 8 _ rfl).2 rfl
  have xc_BadBox : ∀ base : Heap, XC1 PySem.Challenge.rw_twobricks_k01_errors_and_bounds.prog w K mg base [("BadBatch", (He.ga K "BadBatch")), ("BadBox", (He.ga K "BadBox")), ("BadKinds", (He.ga K "BadKinds")), ("BadOrder", (He.ga K "BadOrder")), ("BadPaper", (He.ga K "BadPaper")), ("BadSide", (He.ga K "BadSide")), ("BadText", (He.ga K "BadText")), ("Busy", (He.ga K "Busy")), ("NoAxis", (He.ga K "NoAxis")), ("NoKind", (He.ga K "NoKind")), ("NoNumber", (He.ga K "NoNumber")), ("NoSeam", (He.ga K "NoSeam")), ("NotFilled", (He.ga K "NotFilled")), ("NothingToUndo", (He.ga K "NothingToUndo")), ("NoVersion", (He.ga K "NoVersion")), ("Rejected", (He.ga K "Rejected")), ("TooLarge", (He.ga K "TooLarge")), ("TooManyEdits", (He.ga K "TooManyEdits")), ("Unfit", (He.ga K "Unfit")), ("UnlikeAxes", (He.ga K "UnlikeAxes"))] "BadBox" "error" := by
    intro base
    obtain ⟨oc, od, dc, pm, an, cda, cc, ct, osl, ccl, cdd, cvs, ccs, tf, cl, cld, csl, l, k1, q1, q2, q3⟩ := xa_BadBox.lk
    obtain ⟨cd, hc⟩ := xa_BadBox.c
    refine' DL.xc1_mk X G ?hT cf_BadBox ac_BadBox hc xa_BadBox.sub xa_BadBox.opq xa_BadBox.ini xa_BadBox.ve xa_BadBox.iC xa_BadBox.tI l k1 q1 q2 ?hfile q3 xa_BadBox.hsm ?S ?hp ?har ?hnd ?hks ?htop ?hst ?hev ?hsw ?hin ?hsw2 ?hf ?hdx ?hdc ?hb
    case hT => simp
    case hfile => first | rfl | kernel_rfl
    case S => decide +kernel
    case hp => rfl
    case har => rfl
    case hnd => decide
    case hks => rfl
    case htop => first | rfl | kernel_rfl
    case hst => intro L; rfl
    case hev => intro L; exact ⟨_, rfl⟩
    case hsw => intro L; rfl
    case hin => intro L; rfl
    case hsw2 => intro L; rfl
    case hf => exact xa_BadBox.hf _ (by simp)
    case hdx => decide
    case hdc => decide
    case hb => intro us hl; exact match us, hl with | [_, _], _ => rfl
  have xck_BadBox : ∀ base : Heap, XC1K PySem.Challenge.rw_twobricks_k01_errors_and_bounds.prog w K mg base [("BadBatch", (He.ga K "BadBatch")), ("BadBox", (He.ga K "BadBox")), ("BadKinds", (He.ga K "BadKinds")), ("BadOrder", (He.ga K "BadOrder")), ("BadPaper", (He.ga K "BadPaper")), ("BadSide", (He.ga K "BadSide")), ("BadText", (He.ga K "BadText")), ("Busy", (He.ga K "Busy")), ("NoAxis", (He.ga K "NoAxis")), ("NoKind", (He.ga K "NoKind")), ("NoNumber", (He.ga K "NoNumber")), ("NoSeam", (He.ga K "NoSeam")), ("NotFilled", (He.ga K "NotFilled")), ("NothingToUndo", (He.ga K "NothingToUndo")), ("NoVersion", (He.ga K "NoVersion")), ("Rejected", (He.ga K "Rejected")), ("TooLarge", (He.ga K "TooLarge")), ("TooManyEdits", (He.ga K "TooManyEdits")), ("Unfit", (He.ga K "Unfit")), ("UnlikeAxes", (He.ga K "UnlikeAxes"))] "BadBox" "error" := by
    intro base
    obtain ⟨oc, od, dc, pm, an, cda, cc, ct, osl, ccl, cdd, cvs, ccs, tf, cl, cld, csl, l, k1, q1, q2, q3⟩ := xa_BadBox.lk
    obtain ⟨cd, hc⟩ := xa_BadBox.c
    refine' DL.xc1k_mk X G ?hT cf_BadBox ac_BadBox hc xa_BadBox.sub xa_BadBox.opq xa_BadBox.ini xa_BadBox.ve xa_BadBox.iC xa_BadBox.tI l k1 q1 q2 ?hfile q3 xa_BadBox.hsm ?S ?hp ?har ?hnd ?hks ?htop ?hst ?hev ?hsw ?hin ?hsw2 ?hf ?hdx ?hdc ?hb
    case hT => simp
    case hfile => first | rfl | kernel_rfl
    case S => decide +kernel
    case hp => rfl
    case har => rfl
    case hnd => decide
    case hks => rfl
    case htop => first | rfl | kernel_rfl
    case hst => intro L; rfl
    case hev => intro L; exact ⟨_, rfl⟩
    case hsw => intro L; rfl
    case hin => intro L; rfl
    case hsw2 => intro L; rfl
    case hf => exact xa_BadBox.hf _ (by simp)
    case hdx => decide
    case hdc => decide
    case hb => intro u0 u1; rfl
  have xa_BadKinds : XFa K "BadKinds" ["error"] "/claim/cut.py" "BadKinds.__init__" sx_BadKinds := aX_ok (T.x 65 _ rfl) (T.d 9 _ rfl).1 (T.d 9 _ rfl).2 rfl
  have xc_BadKinds : ∀ base : Heap, XC1 PySem.Challenge.rw_twobricks_k01_errors_and_bounds.prog w K mg base [("BadBatch", (He.ga K "BadBatch")), ("BadBox", (He.ga K "BadBox")), ("BadKinds", (He.ga K "BadKinds")), ("BadOrder", (He.ga K "BadOrder")), ("BadPaper", (He.ga K "BadPaper")), ("BadSide", (He.ga K "BadSide")), ("BadText", (He.ga K "BadText")), ("Busy", (He.ga K "Busy")), ("NoAxis", (He.ga K "NoAxis")), ("NoKind", (He.ga K "NoKind")), ("NoNumber", (He.ga K "NoNumber")), ("NoSeam", (He.ga K "NoSeam")), ("NotFilled", (He.ga K "NotFilled")), ("NothingToUndo", (He.ga K "NothingToUndo")), ("NoVersion", (He.ga K "NoVersion")), ("Rejected", (He.ga K "Rejected")), ("TooLarge", (He.ga K "TooLarge")), ("TooManyEdits", (He.ga K "TooManyEdits")), ("Unfit", (He.ga K "Unfit")), ("UnlikeAxes", (He.ga K "UnlikeAxes"))] "BadKinds" "error" := by
    intro base
    obtain ⟨oc, od, dc, pm, an, cda, cc, ct, osl, ccl, cdd, cvs, ccs, tf, cl, cld, csl, l, k1, q1, q2, q3⟩ := xa_BadKinds.lk
    obtain ⟨cd, hc⟩ := xa_BadKinds.c
    refine' DL.xc1_mk X G ?hT cf_BadKinds ac_BadKinds hc xa_BadKinds.sub xa_BadKinds.opq xa_BadKinds.ini xa_BadKinds.ve xa_BadKinds.iC xa_BadKinds.tI l k1 q1 q2 ?hfile q3 xa_BadKinds.hsm ?S ?hp ?har ?hnd ?hks ?htop ?hst ?hev ?hsw ?hin ?hsw2 ?hf ?hdx ?hdc ?hb
    case hT => simp
    case hfile => first | rfl | kernel_rfl
    case S => decide +kernel
    case hp => rfl
    case har => rfl
    case hnd => decide
    case hks => rfl
    case htop => first | rfl | kernel_rfl
    case hst => intro L; rfl
    case hev => intro L; exact ⟨_, rfl⟩
    case hsw => intro L; rfl
    case hin => intro L; rfl
    case hsw2 => intro L; rfl
    case hf => exact xa_BadKinds.hf _ (by simp)
    case hdx => decide
    case hdc => decide
    case hb => intro us hl; exact match us, hl with | [_, _], _ => rfl
  have xck_BadKinds : ∀ base : Heap, XC1K PySem.Challenge.rw_twobricks_k01_errors_and_bounds.prog w K mg base [("BadBatch", (He.ga K "BadBatch")), ("BadBox", (He.ga K "BadBox")), ("BadKinds", (He.ga K "BadKinds")), ("BadOrder", (He.ga K "BadOrder")), ("BadPaper", (He.ga K "BadPaper")), ("BadSide", (He.ga K "BadSide")), ("BadText", (He.ga K "BadText")), ("Busy", (He.ga K "Busy")), ("NoAxis", (He.ga K "NoAxis")), ("NoKind", (He.ga K "NoKind")), ("NoNumber", (He.ga K "NoNumber")), ("NoSeam", (He.ga K "NoSeam")), ("NotFilled", (He.ga K "NotFilled")), ("NothingToUndo", (He.ga K "NothingToUndo")), ("NoVersion", (He.ga K "NoVersion")), ("Rejected", (He.ga K "Rejected")), ("TooLarge", (He.ga K "TooLarge")), ("TooManyEdits", (He.ga K "TooManyEdits")), ("Unfit", (He.ga K "Unfit")), ("UnlikeAxes", (He.ga K "UnlikeAxes"))] "BadKinds" "error" := by
    intro base
    obtain ⟨oc, od, dc, pm, an, cda, cc, ct, osl, ccl, cdd, cvs, ccs, tf, cl, cld, csl, l, k1, q1, q2, q3⟩ := xa_BadKinds.lk
    obtain ⟨cd, hc⟩ := xa_BadKinds.c
    refine' DL.xc1k_mk X G ?hT cf_BadKinds ac_BadKinds hc xa_BadKinds.sub xa_BadKinds.opq xa_BadKinds.ini xa_BadKinds.ve xa_BadKinds.iC xa_BadKinds.tI l k1 q1 q2 ?hfile q3 xa_BadKinds.hsm ?S ?hp ?har ?hnd ?hks ?htop ?hst ?hev ?hsw ?hin ?hsw2 ?hf ?hdx ?hdc ?hb
    case hT => simp
    case hfile => first | rfl | kernel_rfl
    case S => decide +kernel
    case hp => rfl
    case har => rfl
    case hnd => decide
    case hks => rfl
    case htop => first | rfl | kernel_rfl
    case hst => intro L; rfl
    case hev => intro L; exact ⟨_, rfl⟩
    case hsw => intro L; rfl
    case hin => intro L; rfl
    case hsw2 => intro L; rfl
    case hf => exact xa_BadKinds.hf _ (by simp)
    case hdx => decide
    case hdc => decide
    case hb => intro u0 u1; rfl
  have xa_BadOrder : XFa K "BadOrder" ["given"] "/claim/cut.py" "BadOrder.__init__" sx_BadOrder := aX_ok (T.x 66 _ rfl) (T.d 10 _ rfl).1 (T.d 10 _ rfl).2 rfl
  have xc_BadOrder : ∀ base : Heap, XC1 PySem.Challenge.rw_twobricks_k01_errors_and_bounds.prog w K mg base [("BadBatch", (He.ga K "BadBatch")), ("BadBox", (He.ga K "BadBox")), ("BadKinds", (He.ga K "BadKinds")), ("BadOrder", (He.ga K "BadOrder")), ("BadPaper", (He.ga K "BadPaper")), ("BadSide", (He.ga K "BadSide")), ("BadText", (He.ga K "BadText")), ("Busy", (He.ga K "Busy")), ("NoAxis", (He.ga K "NoAxis")), ("NoKind", (He.ga K "NoKind")), ("NoNumber", (He.ga K "NoNumber")), ("NoSeam", (He.ga K "NoSeam")), ("NotFilled", (He.ga K "NotFilled")), ("NothingToUndo", (He.ga K "NothingToUndo")), ("NoVersion", (He.ga K "NoVersion")), ("Rejected", (He.ga K "Rejected")), ("TooLarge", (He.ga K "TooLarge")), ("TooManyEdits", (He.ga K "TooManyEdits")), ("Unfit", (He.ga K "Unfit")), ("UnlikeAxes", (He.ga K "UnlikeAxes"))] "BadOrder" "given" := by
    intro base
    obtain ⟨oc, od, dc, pm, an, cda, cc, ct, osl, ccl, cdd, cvs, ccs, tf, cl, cld, csl, l, k1, q1, q2, q3⟩ := xa_BadOrder.lk
    obtain ⟨cd, hc⟩ := xa_BadOrder.c
    refine' DL.xc1_mk X G ?hT cf_BadOrder ac_BadOrder hc xa_BadOrder.sub xa_BadOrder.opq xa_BadOrder.ini xa_BadOrder.ve xa_BadOrder.iC xa_BadOrder.tI l k1 q1 q2 ?hfile q3 xa_BadOrder.hsm ?S ?hp ?har ?hnd ?hks ?htop ?hst ?hev ?hsw ?hin ?hsw2 ?hf ?hdx ?hdc ?hb
    case hT => simp
    case hfile => first | rfl | kernel_rfl
    case S => decide +kernel
    case hp => rfl
    case har => rfl
    case hnd => decide
    case hks => rfl
    case htop => first | rfl | kernel_rfl
    case hst => intro L; rfl
    case hev => intro L; exact ⟨_, rfl⟩
    case hsw => intro L; rfl
    case hin => intro L; rfl
    case hsw2 => intro L; rfl
    case hf => exact xa_BadOrder.hf _ (by simp)
    case hdx => decide
    case hdc => decide
    case hb => intro us hl; exact match us, hl with | [_, _], _ => rfl
  have xck_BadOrder : ∀ base : Heap, XC1K PySem.Challenge.rw_twobricks_k01_errors_and_bounds.prog w K mg base [("BadBatch", (He.ga K "BadBatch")), ("BadBox", (He.ga K "BadBox")), ("BadKinds", (He.ga K "BadKinds")), ("BadOrder", (He.ga K "BadOrder")), ("BadPaper", (He.ga K "BadPaper")), ("BadSide", (He.ga K "BadSide")), ("BadText", (He.ga K "BadText")), ("Busy", (He.ga K "Busy")), ("NoAxis", (He.ga K "NoAxis")), ("NoKind", (He.ga K "NoKind")), ("NoNumber", (He.ga K "NoNumber")), ("NoSeam", (He.ga K "NoSeam")), ("NotFilled", (He.ga K "NotFilled")), ("NothingToUndo", (He.ga K "NothingToUndo")), ("NoVersion", (He.ga K "NoVersion")), ("Rejected", (He.ga K "Rejected")), ("TooLarge", (He.ga K "TooLarge")), ("TooManyEdits", (He.ga K "TooManyEdits")), ("Unfit", (He.ga K "Unfit")), ("UnlikeAxes", (He.ga K "UnlikeAxes"))] "BadOrder" "given" := by
    intro base
    obtain ⟨oc, od, dc, pm, an, cda, cc, ct, osl, ccl, cdd, cvs, ccs, tf, cl, cld, csl, l, k1, q1, q2, q3⟩ := xa_BadOrder.lk
    obtain ⟨cd, hc⟩ := xa_BadOrder.c
    refine' DL.xc1k_mk X G ?hT cf_BadOrder ac_BadOrder hc xa_BadOrder.sub xa_BadOrder.opq xa_BadOrder.ini xa_BadOrder.ve xa_BadOrder.iC xa_BadOrder.tI l k1 q1 q2 ?hfile q3 xa_BadOrder.hsm ?S ?hp ?har ?hnd ?hks ?htop ?hst ?hev ?hsw ?hin ?hsw2 ?hf ?hdx ?hdc ?hb
    case hT => simp
    case hfile => first | rfl | kernel_rfl
    case S => decide +kernel
    case hp => rfl
    case har => rfl
    case hnd => decide
    case hks => rfl
    case htop => first | rfl | kernel_rfl
    case hst => intro L; rfl
    case hev => intro L; exact ⟨_, rfl⟩
    case hsw => intro L; rfl
    case hin => intro L; rfl
    case hsw2 => intro L; rfl
    case hf => exact xa_BadOrder.hf _ (by simp)
    case hdx => decide
    case hdc => decide
    case hb => intro u0 u1; rfl
  have xa_BadPaper : XFa K "BadPaper" ["given"] "/claim/cut.py" "BadPaper.__init__" sx_BadPaper := aX_ok (T.x 67 _ rfl) (T.d 11 _ rfl).1 (T.d 11 _ rfl).2 rfl
  have xc_BadPaper : ∀ base : Heap, XC1 PySem.Challenge.rw_twobricks_k01_errors_and_bounds.prog w K mg base [("BadBatch", (He.ga K "BadBatch")), ("BadBox", (He.ga K "BadBox")), ("BadKinds", (He.ga K "BadKinds")), ("BadOrder", (He.ga K "BadOrder")), ("BadPaper", (He.ga K "BadPaper")), ("BadSide", (He.ga K "BadSide")), ("BadText", (He.ga K "BadText")), ("Busy", (He.ga K "Busy")), ("NoAxis", (He.ga K "NoAxis")), ("NoKind", (He.ga K "NoKind")), ("NoNumber", (He.ga K "NoNumber")), ("NoSeam", (He.ga K "NoSeam")), ("NotFilled", (He.ga K "NotFilled")), ("NothingToUndo", (He.ga K "NothingToUndo")), ("NoVersion", (He.ga K "NoVersion")), ("Rejected", (He.ga K "Rejected")), ("TooLarge", (He.ga K "TooLarge")), ("TooManyEdits", (He.ga K "TooManyEdits")), ("Unfit", (He.ga K "Unfit")), ("UnlikeAxes", (He.ga K "UnlikeAxes"))] "BadPaper" "given" := by
    intro base
    obtain ⟨oc, od, dc, pm, an, cda, cc, ct, osl, ccl, cdd, cvs, ccs, tf, cl, cld, csl, l, k1, q1, q2, q3⟩ := xa_BadPaper.lk
    obtain ⟨cd, hc⟩ := xa_BadPaper.c
    refine' DL.xc1_mk X G ?hT cf_BadPaper ac_BadPaper hc xa_BadPaper.sub xa_BadPaper.opq xa_BadPaper.ini xa_BadPaper.ve xa_BadPaper.iC xa_BadPaper.tI l k1 q1 q2 ?hfile q3 xa_BadPaper.hsm ?S ?hp ?har ?hnd ?hks ?htop ?hst ?hev ?hsw ?hin ?hsw2 ?hf ?hdx ?hdc ?hb
    case hT => simp
    case hfile => first | rfl | kernel_rfl
    case S => decide +kernel
    case hp => rfl
    case har => rfl
    case hnd => decide
    case hks => rfl
    case htop => first | rfl | kernel_rfl
    case hst => intro L; rfl
    case hev => intro L; exact ⟨_, rfl⟩
    case hsw => intro L; rfl
    case hin => intro L; rfl
    case hsw2 => intro L; rfl
    case hf => exact xa_BadPaper.hf _ (by simp)
    case hdx => decide
    case hdc => decide
    case hb => intro us hl; exact match us, hl with | [_, _], _ => rfl
  have xck_BadPaper : ∀ base : Heap, XC1K PySem.Challenge.rw_twobricks_k01_errors_and_bounds.prog w K mg base [("BadBatch", (He.ga K "BadBatch")), ("BadBox", (He.ga K "BadBox")), ("BadKinds", (He.ga K "BadKinds")), ("BadOrder", (He.ga K "BadOrder")), ("BadPaper", (He.ga K "BadPaper")), ("BadSide", (He.ga K "BadSide")), ("BadText", (He.ga K "BadText")), ("Busy", (He.ga K "Busy")), ("NoAxis", (He.ga K "NoAxis")), ("NoKind", (He.ga K "NoKind")), ("NoNumber", (He.ga K "NoNumber")), ("NoSeam", (He.ga K "NoSeam")), ("NotFilled", (He.ga K "NotFilled")), ("NothingToUndo", (He.ga K "NothingToUndo")), ("NoVersion", (He.ga K "NoVersion")), ("Rejected", (He.ga K "Rejected")), ("TooLarge", (He.ga K "TooLarge")), ("TooManyEdits", (He.ga K "TooManyEdits")), ("Unfit", (He.ga K "Unfit")), ("UnlikeAxes", (He.ga K "UnlikeAxes"))] "BadPaper" "given" := by
    intro base
    obtain ⟨oc, od, dc, pm, an, cda, cc, ct, osl, ccl, cdd, cvs, ccs, tf, cl, cld, csl, l, k1, q1, q2, q3⟩ := xa_BadPaper.lk
    obtain ⟨cd, hc⟩ := xa_BadPaper.c
    refine' DL.xc1k_mk X G ?hT cf_BadPaper ac_BadPaper hc xa_BadPaper.sub xa_BadPaper.opq xa_BadPaper.ini xa_BadPaper.ve xa_BadPaper.iC xa_BadPaper.tI l k1 q1 q2 ?hfile q3 xa_BadPaper.hsm ?S ?hp ?har ?hnd ?hks ?htop ?hst ?hev ?hsw ?hin ?hsw2 ?hf ?hdx ?hdc ?hb
    case hT => simp
    case hfile => first | rfl | kernel_rfl
    case S => decide +kernel
    case hp => rfl
    case har => rfl
    case hnd => decide
    case hks => rfl
    case htop => first | rfl | kernel_rfl
    case hst => intro L; rfl
    case hev => intro L; exact ⟨_, rfl⟩
    case hsw => intro L; rfl
    case hin => intro L; rfl
    case hsw2 => intro L; rfl
    case hf => exact xa_BadPaper.hf _ (by simp)
    case hdx => decide
    case hdc => decide
    case hb => intro u0 u1; rfl
  have xa_BadSide : XFa K "BadSide" ["given"] "/claim/cut.py" "BadSide.__init__" sx_BadSide := aX_ok (T.x 68 _ rfl) (T.d 12 _ rfl).1 (T.d 12 _ rfl).2 rfl
  have xc_BadSide : ∀ base : Heap, XC1 PySem.Challenge.rw_twobricks_k01_errors_and_bounds.prog w K mg base [("BadBatch", (He.ga K "BadBatch")), ("BadBox", (He.ga K "BadBox")), ("BadKinds", (He.ga K "BadKinds")), ("BadOrder", (He.ga K "BadOrder")), ("BadPaper", (He.ga K "BadPaper")), ("BadSide", (He.ga K "BadSide")), ("BadText", (He.ga K "BadText")), ("Busy", (He.ga K "Busy")), ("NoAxis", (He.ga K "NoAxis")), ("NoKind", (He.ga K "NoKind")), ("NoNumber", (He.ga K "NoNumber")), ("NoSeam", (He.ga K "NoSeam")), ("NotFilled", (He.ga K "NotFilled")), ("NothingToUndo", (He.ga K "NothingToUndo")), ("NoVersion", (He.ga K "NoVersion")), ("Rejected", (He.ga K "Rejected")), ("TooLarge", (He.ga K "TooLarge")), ("TooManyEdits", (He.ga K "TooManyEdits")), ("Unfit", (He.ga K "Unfit")), ("UnlikeAxes", (He.ga K "UnlikeAxes"))] "BadSide" "given" := by
    intro base
    obtain ⟨oc, od, dc, pm, an, cda, cc, ct, osl, ccl, cdd, cvs, ccs, tf, cl, cld, csl, l, k1, q1, q2, q3⟩ := xa_BadSide.lk
    obtain ⟨cd, hc⟩ := xa_BadSide.c
    refine' DL.xc1_mk X G ?hT cf_BadSide ac_BadSide hc xa_BadSide.sub xa_BadSide.opq xa_BadSide.ini xa_BadSide.ve xa_BadSide.iC xa_BadSide.tI l k1 q1 q2 ?hfile q3 xa_BadSide.hsm ?S ?hp ?har ?hnd ?hks ?htop ?hst ?hev ?hsw ?hin ?hsw2 ?hf ?hdx ?hdc ?hb
    case hT => simp
    case hfile => first | rfl | kernel_rfl
    case S => decide +kernel
    case hp => rfl
    case har => rfl
    case hnd => decide
    case hks => rfl
    case htop => first | rfl | kernel_rfl
    case hst => intro L; rfl
    case hev => intro L; exact ⟨_, rfl⟩
    case hsw => intro L; rfl
    case hin => intro L; rfl
    case hsw2 => intro L; rfl
    case hf => exact xa_BadSide.hf _ (by simp)
    case hdx => decide
    case hdc => decide
    case hb => intro us hl; exact match us, hl with | [_, _], _ => rfl
  have xck_BadSide : ∀ base : Heap, XC1K PySem.Challenge.rw_twobricks_k01_errors_and_bounds.prog w K mg base [("BadBatch", (He.ga K "BadBatch")), ("BadBox", (He.ga K "BadBox")), ("BadKinds", (He.ga K "BadKinds")), ("BadOrder", (He.ga K "BadOrder")), ("BadPaper", (He.ga K "BadPaper")), ("BadSide", (He.ga K "BadSide")), ("BadText", (He.ga K "BadText")), ("Busy", (He.ga K "Busy")), ("NoAxis", (He.ga K "NoAxis")), ("NoKind", (He.ga K "NoKind")), ("NoNumber", (He.ga K "NoNumber")), ("NoSeam", (He.ga K "NoSeam")), ("NotFilled", (He.ga K "NotFilled")), ("NothingToUndo", (He.ga K "NothingToUndo")), ("NoVersion", (He.ga K "NoVersion")), ("Rejected", (He.ga K "Rejected")), ("TooLarge", (He.ga K "TooLarge")), ("TooManyEdits", (He.ga K "TooManyEdits")), ("Unfit", (He.ga K "Unfit")), ("UnlikeAxes", (He.ga K "UnlikeAxes"))] "BadSide" "given" := by
    intro base
    obtain ⟨oc, od, dc, pm, an, cda, cc, ct, osl, ccl, cdd, cvs, ccs, tf, cl, cld, csl, l, k1, q1, q2, q3⟩ := xa_BadSide.lk
    obtain ⟨cd, hc⟩ := xa_BadSide.c
    refine' DL.xc1k_mk X G ?hT cf_BadSide ac_BadSide hc xa_BadSide.sub xa_BadSide.opq xa_BadSide.ini xa_BadSide.ve xa_BadSide.iC xa_BadSide.tI l k1 q1 q2 ?hfile q3 xa_BadSide.hsm ?S ?hp ?har ?hnd ?hks ?htop ?hst ?hev ?hsw ?hin ?hsw2 ?hf ?hdx ?hdc ?hb
    case hT => simp
    case hfile => first | rfl | kernel_rfl
    case S => decide +kernel
    case hp => rfl
    case har => rfl
    case hnd => decide
    case hks => rfl
    case htop => first | rfl | kernel_rfl
    case hst => intro L; rfl
    case hev => intro L; exact ⟨_, rfl⟩
    case hsw => intro L; rfl
    case hin => intro L; rfl
    case hsw2 => intro L; rfl
    case hf => exact xa_BadSide.hf _ (by simp)
    case hdx => decide
    case hdc => decide
    case hb => intro u0 u1; rfl
  have xa_BadText : XFa K "BadText" ["place"] "/claim/cut.py" "BadText.__init__" sx_BadText := aX_ok (T.x 69 _ rfl) (T.d 13 _ rfl).1 (T.d 13 _ rfl).2 rfl
  have xc_BadText : ∀ base : Heap, XC1 PySem.Challenge.rw_twobricks_k01_errors_and_bounds.prog w K mg base [("BadBatch", (He.ga K "BadBatch")), ("BadBox", (He.ga K "BadBox")), ("BadKinds", (He.ga K "BadKinds")), ("BadOrder", (He.ga K "BadOrder")), ("BadPaper", (He.ga K "BadPaper")), ("BadSide", (He.ga K "BadSide")), ("BadText", (He.ga K "BadText")), ("Busy", (He.ga K "Busy")), ("NoAxis", (He.ga K "NoAxis")), ("NoKind", (He.ga K "NoKind")), ("NoNumber", (He.ga K "NoNumber")), ("NoSeam", (He.ga K "NoSeam")), ("NotFilled", (He.ga K "NotFilled")), ("NothingToUndo", (He.ga K "NothingToUndo")), ("NoVersion", (He.ga K "NoVersion")), ("Rejected", (He.ga K "Rejected")), ("TooLarge", (He.ga K "TooLarge")), ("TooManyEdits", (He.ga K "TooManyEdits")), ("Unfit", (He.ga K "Unfit")), ("UnlikeAxes", (He.ga K "UnlikeAxes"))] "BadText" "place" := by
    intro base
    obtain ⟨oc, od, dc, pm, an, cda, cc, ct, osl, ccl, cdd, cvs, ccs, tf, cl, cld, csl, l, k1, q1, q2, q3⟩ := xa_BadText.lk
    obtain ⟨cd, hc⟩ := xa_BadText.c
    refine' DL.xc1_mk X G ?hT cf_BadText ac_BadText hc xa_BadText.sub xa_BadText.opq xa_BadText.ini xa_BadText.ve xa_BadText.iC xa_BadText.tI l k1 q1 q2 ?hfile q3 xa_BadText.hsm ?S ?hp ?har ?hnd ?hks ?htop ?hst ?hev ?hsw ?hin ?hsw2 ?hf ?hdx ?hdc ?hb
    case hT => simp
    case hfile => first | rfl | kernel_rfl
    case S => decide +kernel
    case hp => rfl
    case har => rfl
    case hnd => decide
    case hks => rfl
    case htop => first | rfl | kernel_rfl
    case hst => intro L; rfl
    case hev => intro L; exact ⟨_, rfl⟩
    case hsw => intro L; rfl
    case hin => intro L; rfl
    case hsw2 => intro L; rfl
    case hf => exact xa_BadText.hf _ (by simp)
    case hdx => decide
    case hdc => decide
    case hb => intro us hl; exact match us, hl with | [_, _], _ => rfl
  have xck_BadText : ∀ base : Heap, XC1K PySem.Challenge.rw_twobricks_k01_errors_and_bounds.prog w K mg base [("BadBatch", (He.ga K "BadBatch")), ("BadBox", (He.ga K "BadBox")), ("BadKinds", (He.ga K "BadKinds")), ("BadOrder", (He.ga K "BadOrder")), ("BadPaper", (He.ga K "BadPaper")), ("BadSide", (He.ga K "BadSide")), ("BadText", (He.ga K "BadText")), ("Busy", (He.ga K "Busy")), ("NoAxis", (He.ga K "NoAxis")), ("NoKind", (He.ga K "NoKind")), ("NoNumber", (He.ga K "NoNumber")), ("NoSeam", (He.ga K "NoSeam")), ("NotFilled", (He.ga K "NotFilled")), ("NothingToUndo", (He.ga K "NothingToUndo")), ("NoVersion", (He.ga K "NoVersion")), ("Rejected", (He.ga K "Rejected")), ("TooLarge", (He.ga K "TooLarge")), ("TooManyEdits", (He.ga K "TooManyEdits")), ("Unfit", (He.ga K "Unfit")), ("UnlikeAxes", (He.ga K "UnlikeAxes"))] "BadText" "place" := by
    intro base
    obtain ⟨oc, od, dc, pm, an, cda, cc, ct, osl, ccl, cdd, cvs, ccs, tf, cl, cld, csl, l, k1, q1, q2, q3⟩ := xa_BadText.lk
    obtain ⟨cd, hc⟩ := xa_BadText.c
    refine' DL.xc1k_mk X G ?hT cf_BadText ac_BadText hc xa_BadText.sub xa_BadText.opq xa_BadText.ini xa_BadText.ve xa_BadText.iC xa_BadText.tI l k1 q1 q2 ?hfile q3 xa_BadText.hsm ?S ?hp ?har ?hnd ?hks ?htop ?hst ?hev ?hsw ?hin ?hsw2 ?hf ?hdx ?hdc ?hb
    case hT => simp
    case hfile => first | rfl | kernel_rfl
    case S => decide +kernel
    case hp => rfl
    case har => rfl
    case hnd => decide
    case hks => rfl
    case htop => first | rfl | kernel_rfl
    case hst => intro L; rfl
    case hev => intro L; exact ⟨_, rfl⟩
    case hsw => intro L; rfl
    case hin => intro L; rfl
    case hsw2 => intro L; rfl
    case hf => exact xa_BadText.hf _ (by simp)
    case hdx => decide
    case hdc => decide
    case hb => intro u0 u1; rfl
  have xc_Busy : XC0 K mg [("BadBatch", (He.ga K "BadBatch")), ("BadBox", (He.ga K "BadBox")), ("BadKinds", (He.ga K "BadKinds")), ("BadOrder", (He.ga K "BadOrder")), ("BadPaper", (He.ga K "BadPaper")), ("BadSide", (He.ga K "BadSide")), ("BadText", (He.ga K "BadText")), ("Busy", (He.ga K "Busy")), ("NoAxis", (He.ga K "NoAxis")), ("NoKind", (He.ga K "NoKind")), ("NoNumber", (He.ga K "NoNumber")), ("NoSeam", (He.ga K "NoSeam")), ("NotFilled", (He.ga K "NotFilled")), ("NothingToUndo", (He.ga K "NothingToUndo")), ("NoVersion", (He.ga K "NoVersion")), ("Rejected", (He.ga K "Rejected")), ("TooLarge", (He.ga K "TooLarge")), ("TooManyEdits", (He.ga K "TooManyEdits")), ("Unfit", (He.ga K "Unfit")), ("UnlikeAxes", (He.ga K "UnlikeAxes"))] "Busy" := xc0_mk X G (by simp) cf_Busy ac_Busy (T.x 70 _ rfl)
  have xa_NoAxis : XFa K "NoAxis" ["given"] "/claim/cut.py" "NoAxis.__init__" sx_NoAxis := aX_ok (T.x 71 _ rfl) (T.d 14 _ rfl).1 (T.d 14 _ rfl).2 rfl
  have xc_NoAxis : ∀ base : Heap, XC1 PySem.Challenge.rw_twobricks_k01_errors_and_bounds.prog w K mg base [("BadBatch", (He.ga K "BadBatch")), ("BadBox", (He.ga K "BadBox")), ("BadKinds", (He.ga K "BadKinds")), ("BadOrder", (He.ga K "BadOrder")), ("BadPaper", (He.ga K "BadPaper")), ("BadSide", (He.ga K "BadSide")), ("BadText", (He.ga K "BadText")), ("Busy", (He.ga K "Busy")), ("NoAxis", (He.ga K "NoAxis")), ("NoKind", (He.ga K "NoKind")), ("NoNumber", (He.ga K "NoNumber")), ("NoSeam", (He.ga K "NoSeam")), ("NotFilled", (He.ga K "NotFilled")), ("NothingToUndo", (He.ga K "NothingToUndo")), ("NoVersion", (He.ga K "NoVersion")), ("Rejected", (He.ga K "Rejected")), ("TooLarge", (He.ga K "TooLarge")), ("TooManyEdits", (He.ga K "TooManyEdits")), ("Unfit", (He.ga K "Unfit")), ("UnlikeAxes", (He.ga K "UnlikeAxes"))] "NoAxis" "given" := by
    intro base
    obtain ⟨oc, od, dc, pm, an, cda, cc, ct, osl, ccl, cdd, cvs, ccs, tf, cl, cld, csl, l, k1, q1, q2, q3⟩ := xa_NoAxis.lk
    obtain ⟨cd, hc⟩ := xa_NoAxis.c
    refine' DL.xc1_mk X G ?hT cf_NoAxis ac_NoAxis hc xa_NoAxis.sub xa_NoAxis.opq xa_NoAxis.ini xa_NoAxis.ve xa_NoAxis.iC xa_NoAxis.tI l k1 q1 q2 ?hfile q3 xa_NoAxis.hsm ?S ?hp ?har ?hnd ?hks ?htop ?hst ?hev ?hsw ?hin ?hsw2 ?hf ?hdx ?hdc ?hb
    case hT => simp
    case hfile => first | rfl | kernel_rfl
    case S => decide +kernel
    case hp => rfl
    case har => rfl
    case hnd => decide
    case hks => rfl
    case htop => first | rfl | kernel_rfl
    case hst => intro L; rfl
    case hev => intro L; exact ⟨_, rfl⟩
    case hsw => intro L; rfl
    case hin => intro L; rfl
    case hsw2 => intro L; rfl
    case hf => exact xa_NoAxis.hf _ (by simp)
    case hdx => decide
    case hdc => decide
    case hb => intro us hl; exact match us, hl with | [_, _], _ => rfl
  have xck_NoAxis : ∀ base : Heap, XC1K PySem.Challenge.rw_twobricks_k01_errors_and_bounds.prog w K mg base [("BadBatch", (He.ga K "BadBatch")), ("BadBox", (He.ga K "BadBox")), ("BadKinds", (He.ga K "BadKinds")), ("BadOrder", (He.ga K "BadOrder")), ("BadPaper", (He.ga K "BadPaper")), ("BadSide", (He.ga K "BadSide")), ("BadText", (He.ga K "BadText")), ("Busy", (He.ga K "Busy")), ("NoAxis", (He.ga K "NoAxis")), ("NoKind", (He.ga K "NoKind")), ("NoNumber", (He.ga K "NoNumber")), ("NoSeam", (He.ga K "NoSeam")), ("NotFilled", (He.ga K "NotFilled")), ("NothingToUndo", (He.ga K "NothingToUndo")), ("NoVersion", (He.ga K "NoVersion")), ("Rejected", (He.ga K "Rejected")), ("TooLarge", (He.ga K "TooLarge")), ("TooManyEdits", (He.ga K "TooManyEdits")), ("Unfit", (He.ga K "Unfit")), ("UnlikeAxes", (He.ga K "UnlikeAxes"))] "NoAxis" "given" := by
    intro base
    obtain ⟨oc, od, dc, pm, an, cda, cc, ct, osl, ccl, cdd, cvs, ccs, tf, cl, cld, csl, l, k1, q1, q2, q3⟩ := xa_NoAxis.lk
    obtain ⟨cd, hc⟩ := xa_NoAxis.c
    refine' DL.xc1k_mk X G ?hT cf_NoAxis ac_NoAxis hc xa_NoAxis.sub xa_NoAxis.opq xa_NoAxis.ini xa_NoAxis.ve xa_NoAxis.iC xa_NoAxis.tI l k1 q1 q2 ?hfile q3 xa_NoAxis.hsm ?S ?hp ?har ?hnd ?hks ?htop ?hst ?hev ?hsw ?hin ?hsw2 ?hf ?hdx ?hdc ?hb
    case hT => simp
    case hfile => first | rfl | kernel_rfl
    case S => decide +kernel
    case hp => rfl
    case har => rfl
    case hnd => decide
    case hks => rfl
    case htop => first | rfl | kernel_rfl
    case hst => intro L; rfl
    case hev => intro L; exact ⟨_, rfl⟩
    case hsw => intro L; rfl
    case hin => intro L; rfl
    case hsw2 => intro L; rfl
    case hf => exact xa_NoAxis.hf _ (by simp)
    case hdx => decide
    case hdc => decide
    case hb => intro u0 u1; rfl
  have xa_NoKind : XFa K "NoKind" ["given"] "/claim/cut.py" "NoKind.__init__" sx_NoKind := aX_ok (T.x 72 _ rfl) (T.d 15 _ rfl).1 (T.d 15 _ rfl).2 rfl
  have xc_NoKind : ∀ base : Heap, XC1 PySem.Challenge.rw_twobricks_k01_errors_and_bounds.prog w K mg base [("BadBatch", (He.ga K "BadBatch")), ("BadBox", (He.ga K "BadBox")), ("BadKinds", (He.ga K "BadKinds")), ("BadOrder", (He.ga K "BadOrder")), ("BadPaper", (He.ga K "BadPaper")), ("BadSide", (He.ga K "BadSide")), ("BadText", (He.ga K "BadText")), ("Busy", (He.ga K "Busy")), ("NoAxis", (He.ga K "NoAxis")), ("NoKind", (He.ga K "NoKind")), ("NoNumber", (He.ga K "NoNumber")), ("NoSeam", (He.ga K "NoSeam")), ("NotFilled", (He.ga K "NotFilled")), ("NothingToUndo", (He.ga K "NothingToUndo")), ("NoVersion", (He.ga K "NoVersion")), ("Rejected", (He.ga K "Rejected")), ("TooLarge", (He.ga K "TooLarge")), ("TooManyEdits", (He.ga K "TooManyEdits")), ("Unfit", (He.ga K "Unfit")), ("UnlikeAxes", (He.ga K "UnlikeAxes"))] "NoKind" "given" := by
    intro base
    obtain ⟨oc, od, dc, pm, an, cda, cc, ct, osl, ccl, cdd, cvs, ccs, tf, cl, cld, csl, l, k1, q1, q2, q3⟩ := xa_NoKind.lk
    obtain ⟨cd, hc⟩ := xa_NoKind.c
    refine' DL.xc1_mk X G ?hT cf_NoKind ac_NoKind hc xa_NoKind.sub xa_NoKind.opq xa_NoKind.ini xa_NoKind.ve xa_NoKind.iC xa_NoKind.tI l k1 q1 q2 ?hfile q3 xa_NoKind.hsm ?S ?hp ?har ?hnd ?hks ?htop ?hst ?hev ?hsw ?hin ?hsw2 ?hf ?hdx ?hdc ?hb
    case hT => simp
    case hfile => first | rfl | kernel_rfl
    case S => decide +kernel
    case hp => rfl
    case har => rfl
    case hnd => decide
    case hks => rfl
    case htop => first | rfl | kernel_rfl
    case hst => intro L; rfl
    case hev => intro L; exact ⟨_, rfl⟩
    case hsw => intro L; rfl
    case hin => intro L; rfl
    case hsw2 => intro L; rfl
    case hf => exact xa_NoKind.hf _ (by simp)
    case hdx => decide
    case hdc => decide
    case hb => intro us hl; exact match us, hl with | [_, _], _ => rfl
  have xck_NoKind : ∀ base : Heap, XC1K PySem.Challenge.rw_twobricks_k01_errors_and_bounds.prog w K mg base [("BadBatch", (He.ga K "BadBatch")), ("BadBox", (He.ga K "BadBox")), ("BadKinds", (He.ga K "BadKinds")), ("BadOrder", (He.ga K "BadOrder")), ("BadPaper", (He.ga K "BadPaper")), ("BadSide", (He.ga K "BadSide")), ("BadText", (He.ga K "BadText")), ("Busy", (He.ga K "Busy")), ("NoAxis", (He.ga K "NoAxis")), ("NoKind", (He.ga K "NoKind")), ("NoNumber", (He.ga K "NoNumber")), ("NoSeam", (He.ga K "NoSeam")), ("NotFilled", (He.ga K "NotFilled")), ("NothingToUndo", (He.ga K "NothingToUndo")), ("NoVersion", (He.ga K "NoVersion")), ("Rejected", (He.ga K "Rejected")), ("TooLarge", (He.ga K "TooLarge")), ("TooManyEdits", (He.ga K "TooManyEdits")), ("Unfit", (He.ga K "Unfit")), ("UnlikeAxes", (He.ga K "UnlikeAxes"))] "NoKind" "given" := by
    intro base
    obtain ⟨oc, od, dc, pm, an, cda, cc, ct, osl, ccl, cdd, cvs, ccs, tf, cl, cld, csl, l, k1, q1, q2, q3⟩ := xa_NoKind.lk
    obtain ⟨cd, hc⟩ := xa_NoKind.c
    refine' DL.xc1k_mk X G ?hT cf_NoKind ac_NoKind hc xa_NoKind.sub xa_NoKind.opq xa_NoKind.ini xa_NoKind.ve xa_NoKind.iC xa_NoKind.tI l k1 q1 q2 ?hfile q3 xa_NoKind.hsm ?S ?hp ?har ?hnd ?hks ?htop ?hst ?hev ?hsw ?hin ?hsw2 ?hf ?hdx ?hdc ?hb
    case hT => simp
    case hfile => first | rfl | kernel_rfl
    case S => decide +kernel
    case hp => rfl
    case har => rfl
    case hnd => decide
    case hks => rfl
    case htop => first | rfl | kernel_rfl
    case hst => intro L; rfl
    case hev => intro L; exact ⟨_, rfl⟩
    case hsw => intro L; rfl
    case hin => intro L; rfl
    case hsw2 => intro L; rfl
    case hf => exact xa_NoKind.hf _ (by simp)
    case hdx => decide
    case hdc => decide
    case hb => intro u0 u1; rfl
  have xa_NoNumber : XFa K "NoNumber" ["number"] "/claim/cut.py" "NoNumber.__init__" sx_NoNumber := aX_ok (T.x 73 _ rfl) (T.d 16 _ rfl).1 (T.d 16 _ rfl).2 rfl
  have xc_NoNumber : ∀ base : Heap, XC1 PySem.Challenge.rw_twobricks_k01_errors_and_bounds.prog w K mg base [("BadBatch", (He.ga K "BadBatch")), ("BadBox", (He.ga K "BadBox")), ("BadKinds", (He.ga K "BadKinds")), ("BadOrder", (He.ga K "BadOrder")), ("BadPaper", (He.ga K "BadPaper")), ("BadSide", (He.ga K "BadSide")), ("BadText", (He.ga K "BadText")), ("Busy", (He.ga K "Busy")), ("NoAxis", (He.ga K "NoAxis")), ("NoKind", (He.ga K "NoKind")), ("NoNumber", (He.ga K "NoNumber")), ("NoSeam", (He.ga K "NoSeam")), ("NotFilled", (He.ga K "NotFilled")), ("NothingToUndo", (He.ga K "NothingToUndo")), ("NoVersion", (He.ga K "NoVersion")), ("Rejected", (He.ga K "Rejected")), ("TooLarge", (He.ga K "TooLarge")), ("TooManyEdits", (He.ga K "TooManyEdits")), ("Unfit", (He.ga K "Unfit")), ("UnlikeAxes", (He.ga K "UnlikeAxes"))] "NoNumber" "number" := by
    intro base
    obtain ⟨oc, od, dc, pm, an, cda, cc, ct, osl, ccl, cdd, cvs, ccs, tf, cl, cld, csl, l, k1, q1, q2, q3⟩ := xa_NoNumber.lk
    obtain ⟨cd, hc⟩ := xa_NoNumber.c
    refine' DL.xc1_mk X G ?hT cf_NoNumber ac_NoNumber hc xa_NoNumber.sub xa_NoNumber.opq xa_NoNumber.ini xa_NoNumber.ve xa_NoNumber.iC xa_NoNumber.tI l k1 q1 q2 ?hfile q3 xa_NoNumber.hsm ?S ?hp ?har ?hnd ?hks ?htop ?hst ?hev ?hsw ?hin ?hsw2 ?hf ?hdx ?hdc ?hb
    case hT => simp
    case hfile => first | rfl | kernel_rfl
    case S => decide +kernel
    case hp => rfl
    case har => rfl
    case hnd => decide
    case hks => rfl
    case htop => first | rfl | kernel_rfl
    case hst => intro L; rfl
    case hev => intro L; exact ⟨_, rfl⟩
    case hsw => intro L; rfl
    case hin => intro L; rfl
    case hsw2 => intro L; rfl
    case hf => exact xa_NoNumber.hf _ (by simp)
    case hdx => decide
    case hdc => decide
    case hb => intro us hl; exact match us, hl with | [_, _], _ => rfl
  have xck_NoNumber : ∀ base : Heap, XC1K PySem.Challenge.rw_twobricks_k01_errors_and_bounds.prog w K mg base [("BadBatch", (He.ga K "BadBatch")), ("BadBox", (He.ga K "BadBox")), ("BadKinds", (He.ga K "BadKinds")), ("BadOrder", (He.ga K "BadOrder")), ("BadPaper", (He.ga K "BadPaper")), ("BadSide", (He.ga K "BadSide")), ("BadText", (He.ga K "BadText")), ("Busy", (He.ga K "Busy")), ("NoAxis", (He.ga K "NoAxis")), ("NoKind", (He.ga K "NoKind")), ("NoNumber", (He.ga K "NoNumber")), ("NoSeam", (He.ga K "NoSeam")), ("NotFilled", (He.ga K "NotFilled")), ("NothingToUndo", (He.ga K "NothingToUndo")), ("NoVersion", (He.ga K "NoVersion")), ("Rejected", (He.ga K "Rejected")), ("TooLarge", (He.ga K "TooLarge")), ("TooManyEdits", (He.ga K "TooManyEdits")), ("Unfit", (He.ga K "Unfit")), ("UnlikeAxes", (He.ga K "UnlikeAxes"))] "NoNumber" "number" := by
    intro base
    obtain ⟨oc, od, dc, pm, an, cda, cc, ct, osl, ccl, cdd, cvs, ccs, tf, cl, cld, csl, l, k1, q1, q2, q3⟩ := xa_NoNumber.lk
    obtain ⟨cd, hc⟩ := xa_NoNumber.c
    refine' DL.xc1k_mk X G ?hT cf_NoNumber ac_NoNumber hc xa_NoNumber.sub xa_NoNumber.opq xa_NoNumber.ini xa_NoNumber.ve xa_NoNumber.iC xa_NoNumber.tI l k1 q1 q2 ?hfile q3 xa_NoNumber.hsm ?S ?hp ?har ?hnd ?hks ?htop ?hst ?hev ?hsw ?hin ?hsw2 ?hf ?hdx ?hdc ?hb
    case hT => simp
    case hfile => first | rfl | kernel_rfl
    case S => decide +kernel
    case hp => rfl
    case har => rfl
    case hnd => decide
    case hks => rfl
    case htop => first | rfl | kernel_rfl
    case hst => intro L; rfl
    case hev => intro L; exact ⟨_, rfl⟩
    case hsw => intro L; rfl
    case hin => intro L; rfl
    case hsw2 => intro L; rfl
    case hf => exact xa_NoNumber.hf _ (by simp)
    case hdx => decide
    case hdc => decide
    case hb => intro u0 u1; rfl
  have xa_NoSeam : XFa K "NoSeam" ["axis", "at"] "/claim/cut.py" "NoSeam.__init__" sx_NoSeam := aX_ok (T.x 74 _ rfl) (T.d 17 _ rfl).1 (T.d 17 _ rfl).2 rfl
  have xc_NoSeam : ∀ base : Heap, XC2 PySem.Challenge.rw_twobricks_k01_errors_and_bounds.prog w K mg base [("BadBatch", (He.ga K "BadBatch")), ("BadBox", (He.ga K "BadBox")), ("BadKinds", (He.ga K "BadKinds")), ("BadOrder", (He.ga K "BadOrder")), ("BadPaper", (He.ga K "BadPaper")), ("BadSide", (He.ga K "BadSide")), ("BadText", (He.ga K "BadText")), ("Busy", (He.ga K "Busy")), ("NoAxis", (He.ga K "NoAxis")), ("NoKind", (He.ga K "NoKind")), ("NoNumber", (He.ga K "NoNumber")), ("NoSeam", (He.ga K "NoSeam")), ("NotFilled", (He.ga K "NotFilled")), ("NothingToUndo", (He.ga K "NothingToUndo")), ("NoVersion", (He.ga K "NoVersion")), ("Rejected", (He.ga K "Rejected")), ("TooLarge", (He.ga K "TooLarge")), ("TooManyEdits", (He.ga K "TooManyEdits")), ("Unfit", (He.ga K "Unfit")), ("UnlikeAxes", (He.ga K "UnlikeAxes"))] "NoSeam" "axis" "at" := by
    intro base
    obtain ⟨oc, od, dc, pm, an, cda, cc, ct, osl, ccl, cdd, cvs, ccs, tf, cl, cld, csl, l, k1, q1, q2, q3⟩ := xa_NoSeam.lk
    obtain ⟨cd, hc⟩ := xa_NoSeam.c
    refine' DL.xc2_mk X G ?hT cf_NoSeam ac_NoSeam hc xa_NoSeam.sub xa_NoSeam.opq xa_NoSeam.ini xa_NoSeam.ve xa_NoSeam.iC xa_NoSeam.tI l k1 q1 q2 ?hfile q3 xa_NoSeam.hsm ?S ?hp ?har ?hnd ?hks ?htop ?hst ?hev ?hsw ?hin ?hsw2 ?hsw3 ?hf ?hg ?hdx ?hdc ?hdx2 ?hdc2 ?hb
    case hT => simp
    case hfile => first | rfl | kernel_rfl
    case S => decide +kernel
    case hp => rfl
    case har => rfl
    case hnd => decide
    case hks => rfl
    case htop => first | rfl | kernel_rfl
    case hst => intro L; rfl
    case hev => intro L; exact ⟨_, rfl⟩
    case hsw => intro L; rfl
    case hin => intro L; rfl
    case hsw2 => intro L; rfl
    case hsw3 => intro L; rfl
    case hg => exact xa_NoSeam.hf _ (by simp)
    case hdx2 => decide
    case hdc2 => decide
    case hf => exact xa_NoSeam.hf _ (by simp)
    case hdx => decide
    case hdc => decide
    case hb => intro us hl; exact match us, hl with | [_, _, _], _ => rfl
  have xck_NoSeam : ∀ base : Heap, XC2K PySem.Challenge.rw_twobricks_k01_errors_and_bounds.prog w K mg base [("BadBatch", (He.ga K "BadBatch")), ("BadBox", (He.ga K "BadBox")), ("BadKinds", (He.ga K "BadKinds")), ("BadOrder", (He.ga K "BadOrder")), ("BadPaper", (He.ga K "BadPaper")), ("BadSide", (He.ga K "BadSide")), ("BadText", (He.ga K "BadText")), ("Busy", (He.ga K "Busy")), ("NoAxis", (He.ga K "NoAxis")), ("NoKind", (He.ga K "NoKind")), ("NoNumber", (He.ga K "NoNumber")), ("NoSeam", (He.ga K "NoSeam")), ("NotFilled", (He.ga K "NotFilled")), ("NothingToUndo", (He.ga K "NothingToUndo")), ("NoVersion", (He.ga K "NoVersion")), ("Rejected", (He.ga K "Rejected")), ("TooLarge", (He.ga K "TooLarge")), ("TooManyEdits", (He.ga K "TooManyEdits")), ("Unfit", (He.ga K "Unfit")), ("UnlikeAxes", (He.ga K "UnlikeAxes"))] "NoSeam" "axis" "at" := by
    intro base
    obtain ⟨oc, od, dc, pm, an, cda, cc, ct, osl, ccl, cdd, cvs, ccs, tf, cl, cld, csl, l, k1, q1, q2, q3⟩ := xa_NoSeam.lk
    obtain ⟨cd, hc⟩ := xa_NoSeam.c
    refine' DL.xc2k_mk X G ?hT cf_NoSeam ac_NoSeam hc xa_NoSeam.sub xa_NoSeam.opq xa_NoSeam.ini xa_NoSeam.ve xa_NoSeam.iC xa_NoSeam.tI l k1 q1 q2 ?hfile q3 xa_NoSeam.hsm ?S ?hp ?har ?hnd ?hks ?htop ?hst ?hev ?hsw ?hin ?hsw2 ?hsw3 ?hf ?hg ?hdx ?hdc ?hdx2 ?hdc2 ?hb
    case hT => simp
    case hfile => first | rfl | kernel_rfl
    case S => decide +kernel
    case hp => rfl
    case har => rfl
    case hnd => decide
    case hks => rfl
    case htop => first | rfl | kernel_rfl
    case hst => intro L; rfl
    case hev => intro L; exact ⟨_, rfl⟩
    case hsw => intro L; rfl
    case hin => intro L; rfl
    case hsw2 => intro L; rfl
    case hsw3 => intro L; rfl
    case hg => exact xa_NoSeam.hf _ (by simp)
    case hdx2 => decide
    case hdc2 => decide
    case hf => exact xa_NoSeam.hf _ (by simp)
    case hdx => decide
    case hdc => decide
    case hb => intro u0 u1 u2; rfl
  have xa_NotFilled : XFa K "NotFilled" ["reason"] "/claim/cut.py" "NotFilled.__init__" sx_NotFilled := aX_ok (T.x 75 _ rfl) (T.d 18 _ rfl).1 (T.d 18 _ rfl).2 rfl
  have xc_NotFilled : ∀ base : Heap, XC1 PySem.Challenge.rw_twobricks_k01_errors_and_bounds.prog w K mg base [("BadBatch", (He.ga K "BadBatch")), ("BadBox", (He.ga K "BadBox")), ("BadKinds", (He.ga K "BadKinds")), ("BadOrder", (He.ga K "BadOrder")), ("BadPaper", (He.ga K "BadPaper")), ("BadSide", (He.ga K "BadSide")), ("BadText", (He.ga K "BadText")), ("Busy", (He.ga K "Busy")), ("NoAxis", (He.ga K "NoAxis")), ("NoKind", (He.ga K "NoKind")), ("NoNumber", (He.ga K "NoNumber")), ("NoSeam", (He.ga K "NoSeam")), ("NotFilled", (He.ga K "NotFilled")), ("NothingToUndo", (He.ga K "NothingToUndo")), ("NoVersion", (He.ga K "NoVersion")), ("Rejected", (He.ga K "Rejected")), ("TooLarge", (He.ga K "TooLarge")), ("TooManyEdits", (He.ga K "TooManyEdits")), ("Unfit", (He.ga K "Unfit")), ("UnlikeAxes", (He.ga K "UnlikeAxes"))] "NotFilled" "reason" := by
    intro base
    obtain ⟨oc, od, dc, pm, an, cda, cc, ct, osl, ccl, cdd, cvs, ccs, tf, cl, cld, csl, l, k1, q1, q2, q3⟩ := xa_NotFilled.lk
    obtain ⟨cd, hc⟩ := xa_NotFilled.c
    refine' DL.xc1_mk X G ?hT cf_NotFilled ac_NotFilled hc xa_NotFilled.sub xa_NotFilled.opq xa_NotFilled.ini xa_NotFilled.ve xa_NotFilled.iC xa_NotFilled.tI l k1 q1 q2 ?hfile q3 xa_NotFilled.hsm ?S ?hp ?har ?hnd ?hks ?htop ?hst ?hev ?hsw ?hin ?hsw2 ?hf ?hdx ?hdc ?hb
    case hT => simp
    case hfile => first | rfl | kernel_rfl
    case S => decide +kernel
    case hp => rfl
    case har => rfl
    case hnd => decide
    case hks => rfl
    case htop => first | rfl | kernel_rfl
    case hst => intro L; rfl
    case hev => intro L; exact ⟨_, rfl⟩
    case hsw => intro L; rfl
    case hin => intro L; rfl
    case hsw2 => intro L; rfl
    case hf => exact xa_NotFilled.hf _ (by simp)
    case hdx => decide
    case hdc => decide
    case hb => intro us hl; exact match us, hl with | [_, _], _ => rfl
  have xck_NotFilled : ∀ base : Heap, XC1K PySem.Challenge.rw_twobricks_k01_errors_and_bounds.prog w K mg base [("BadBatch", (He.ga K "BadBatch")), ("BadBox", (He.ga K "BadBox")), ("BadKinds", (He.ga K "BadKinds")), ("BadOrder", (He.ga K "BadOrder")), ("BadPaper", (He.ga K "BadPaper")), ("BadSide", (He.ga K "BadSide")), ("BadText", (He.ga K "BadText")), ("Busy", (He.ga K "Busy")), ("NoAxis", (He.ga K "NoAxis")), ("NoKind", (He.ga K "NoKind")), ("NoNumber", (He.ga K "NoNumber")), ("NoSeam", (He.ga K "NoSeam")), ("NotFilled", (He.ga K "NotFilled")), ("NothingToUndo", (He.ga K "NothingToUndo")), ("NoVersion", (He.ga K "NoVersion")), ("Rejected", (He.ga K "Rejected")), ("TooLarge", (He.ga K "TooLarge")), ("TooManyEdits", (He.ga K "TooManyEdits")), ("Unfit", (He.ga K "Unfit")), ("UnlikeAxes", (He.ga K "UnlikeAxes"))] "NotFilled" "reason" := by
    intro base
    obtain ⟨oc, od, dc, pm, an, cda, cc, ct, osl, ccl, cdd, cvs, ccs, tf, cl, cld, csl, l, k1, q1, q2, q3⟩ := xa_NotFilled.lk
    obtain ⟨cd, hc⟩ := xa_NotFilled.c
    refine' DL.xc1k_mk X G ?hT cf_NotFilled ac_NotFilled hc xa_NotFilled.sub xa_NotFilled.opq xa_NotFilled.ini xa_NotFilled.ve xa_NotFilled.iC xa_NotFilled.tI l k1 q1 q2 ?hfile q3 xa_NotFilled.hsm ?S ?hp ?har ?hnd ?hks ?htop ?hst ?hev ?hsw ?hin ?hsw2 ?hf ?hdx ?hdc ?hb
    case hT => simp
    case hfile => first | rfl | kernel_rfl
    case S => decide +kernel
    case hp => rfl
    case har => rfl
    case hnd => decide
    case hks => rfl
    case htop => first | rfl | kernel_rfl
    case hst => intro L; rfl
    case hev => intro L; exact ⟨_, rfl⟩
    case hsw => intro L; rfl
    case hin => intro L; rfl
    case hsw2 => intro L; rfl
    case hf => exact xa_NotFilled.hf _ (by simp)
    case hdx => decide
    case hdc => decide
    case hb => intro u0 u1; rfl
  have xc_NothingToUndo : XC0 K mg [("BadBatch", (He.ga K "BadBatch")), ("BadBox", (He.ga K "BadBox")), ("BadKinds", (He.ga K "BadKinds")), ("BadOrder", (He.ga K "BadOrder")), ("BadPaper", (He.ga K "BadPaper")), ("BadSide", (He.ga K "BadSide")), ("BadText", (He.ga K "BadText")), ("Busy", (He.ga K "Busy")), ("NoAxis", (He.ga K "NoAxis")), ("NoKind", (He.ga K "NoKind")), ("NoNumber", (He.ga K "NoNumber")), ("NoSeam", (He.ga K "NoSeam")), ("NotFilled", (He.ga K "NotFilled")), ("NothingToUndo", (He.ga K "NothingToUndo")), ("NoVersion", (He.ga K "NoVersion")), ("Rejected", (He.ga K "Rejected")), ("TooLarge", (He.ga K "TooLarge")), ("TooManyEdits", (He.ga K "TooManyEdits")), ("Unfit", (He.ga K "Unfit")), ("UnlikeAxes", (He.ga K "UnlikeAxes"))] "NothingToUndo" := xc0_mk X G (by simp) cf_NothingToUndo ac_NothingToUndo (T.x 76 _ rfl)
  have xa_NoVersion : XFa K "NoVersion" ["given"] "/claim/cut.py" "NoVersion.__init__" sx_NoVersion := aX_ok (T.x 77 _ rfl) (T.d 19 _ rfl).1 (T.d 19 _ rfl).2 rfl
  have xc_NoVersion : ∀ base : Heap, XC1 PySem.Challenge.rw_twobricks_k01_errors_and_bounds.prog w K mg base [("BadBatch", (He.ga K "BadBatch")), ("BadBox", (He.ga K "BadBox")), ("BadKinds", (He.ga K "BadKinds")), ("BadOrder", (He.ga K "BadOrder")), ("BadPaper", (He.ga K "BadPaper")), ("BadSide", (He.ga K "BadSide")), ("BadText", (He.ga K "BadText")), ("Busy", (He.ga K "Busy")), ("NoAxis", (He.ga K "NoAxis")), ("NoKind", (He.ga K "NoKind")), ("NoNumber", (He.ga K "NoNumber")), ("NoSeam", (He.ga K "NoSeam")), ("NotFilled", (He.ga K "NotFilled")), ("NothingToUndo", (He.ga K "NothingToUndo")), ("NoVersion", (He.ga K "NoVersion")), ("Rejected", (He.ga K "Rejected")), ("TooLarge", (He.ga K "TooLarge")), ("TooManyEdits", (He.ga K "TooManyEdits")), ("Unfit", (He.ga K "Unfit")), ("UnlikeAxes", (He.ga K "UnlikeAxes"))] "NoVersion" "given" := by
    intro base
    obtain ⟨oc, od, dc, pm, an, cda, cc, ct, osl, ccl, cdd, cvs, ccs, tf, cl, cld, csl, l, k1, q1, q2, q3⟩ := xa_NoVersion.lk
    obtain ⟨cd, hc⟩ := xa_NoVersion.c
    refine' DL.xc1_mk X G ?hT cf_NoVersion ac_NoVersion hc xa_NoVersion.sub xa_NoVersion.opq xa_NoVersion.ini xa_NoVersion.ve xa_NoVersion.iC xa_NoVersion.tI l k1 q1 q2 ?hfile q3 xa_NoVersion.hsm ?S ?hp ?har ?hnd ?hks ?htop ?hst ?hev ?hsw ?hin ?hsw2 ?hf ?hdx ?hdc ?hb
    case hT => simp
    case hfile => first | rfl | kernel_rfl
    case S => decide +kernel
    case hp => rfl
    case har => rfl
    case hnd => decide
    case hks => rfl
    case htop => first | rfl | kernel_rfl
    case hst => intro L; rfl
    case hev => intro L; exact ⟨_, rfl⟩
    case hsw => intro L; rfl
    case hin => intro L; rfl
    case hsw2 => intro L; rfl
    case hf => exact xa_NoVersion.hf _ (by simp)
    case hdx => decide
    case hdc => decide
    case hb => intro us hl; exact match us, hl with | [_, _], _ => rfl
  have xck_NoVersion : ∀ base : Heap, XC1K PySem.Challenge.rw_twobricks_k01_errors_and_bounds.prog w K mg base [("BadBatch", (He.ga K "BadBatch")), ("BadBox", (He.ga K "BadBox")), ("BadKinds", (He.ga K "BadKinds")), ("BadOrder", (He.ga K "BadOrder")), ("BadPaper", (He.ga K "BadPaper")), ("BadSide", (He.ga K "BadSide")), ("BadText", (He.ga K "BadText")), ("Busy", (He.ga K "Busy")), ("NoAxis", (He.ga K "NoAxis")), ("NoKind", (He.ga K "NoKind")), ("NoNumber", (He.ga K "NoNumber")), ("NoSeam", (He.ga K "NoSeam")), ("NotFilled", (He.ga K "NotFilled")), ("NothingToUndo", (He.ga K "NothingToUndo")), ("NoVersion", (He.ga K "NoVersion")), ("Rejected", (He.ga K "Rejected")), ("TooLarge", (He.ga K "TooLarge")), ("TooManyEdits", (He.ga K "TooManyEdits")), ("Unfit", (He.ga K "Unfit")), ("UnlikeAxes", (He.ga K "UnlikeAxes"))] "NoVersion" "given" := by
    intro base
    obtain ⟨oc, od, dc, pm, an, cda, cc, ct, osl, ccl, cdd, cvs, ccs, tf, cl, cld, csl, l, k1, q1, q2, q3⟩ := xa_NoVersion.lk
    obtain ⟨cd, hc⟩ := xa_NoVersion.c
    refine' DL.xc1k_mk X G ?hT cf_NoVersion ac_NoVersion hc xa_NoVersion.sub xa_NoVersion.opq xa_NoVersion.ini xa_NoVersion.ve xa_NoVersion.iC xa_NoVersion.tI l k1 q1 q2 ?hfile q3 xa_NoVersion.hsm ?S ?hp ?har ?hnd ?hks ?htop ?hst ?hev ?hsw ?hin ?hsw2 ?hf ?hdx ?hdc ?hb
    case hT => simp
    case hfile => first | rfl | kernel_rfl
    case S => decide +kernel
    case hp => rfl
    case har => rfl
    case hnd => decide
    case hks => rfl
    case htop => first | rfl | kernel_rfl
    case hst => intro L; rfl
    case hev => intro L; exact ⟨_, rfl⟩
    case hsw => intro L; rfl
    case hin => intro L; rfl
    case hsw2 => intro L; rfl
    case hf => exact xa_NoVersion.hf _ (by simp)
    case hdx => decide
    case hdc => decide
    case hb => intro u0 u1; rfl
  have xa_Rejected : XFa K "Rejected" ["index"] "/claim/cut.py" "Rejected.__init__" sx_Rejected := aX_ok (T.x 78 _ rfl) (T.d 20 _ rfl).1 (T.d 20 _ rfl).2 rfl
  have xc_Rejected : ∀ base : Heap, XC1 PySem.Challenge.rw_twobricks_k01_errors_and_bounds.prog w K mg base [("BadBatch", (He.ga K "BadBatch")), ("BadBox", (He.ga K "BadBox")), ("BadKinds", (He.ga K "BadKinds")), ("BadOrder", (He.ga K "BadOrder")), ("BadPaper", (He.ga K "BadPaper")), ("BadSide", (He.ga K "BadSide")), ("BadText", (He.ga K "BadText")), ("Busy", (He.ga K "Busy")), ("NoAxis", (He.ga K "NoAxis")), ("NoKind", (He.ga K "NoKind")), ("NoNumber", (He.ga K "NoNumber")), ("NoSeam", (He.ga K "NoSeam")), ("NotFilled", (He.ga K "NotFilled")), ("NothingToUndo", (He.ga K "NothingToUndo")), ("NoVersion", (He.ga K "NoVersion")), ("Rejected", (He.ga K "Rejected")), ("TooLarge", (He.ga K "TooLarge")), ("TooManyEdits", (He.ga K "TooManyEdits")), ("Unfit", (He.ga K "Unfit")), ("UnlikeAxes", (He.ga K "UnlikeAxes"))] "Rejected" "index" := by
    intro base
    obtain ⟨oc, od, dc, pm, an, cda, cc, ct, osl, ccl, cdd, cvs, ccs, tf, cl, cld, csl, l, k1, q1, q2, q3⟩ := xa_Rejected.lk
    obtain ⟨cd, hc⟩ := xa_Rejected.c
    refine' DL.xc1_mk X G ?hT cf_Rejected ac_Rejected hc xa_Rejected.sub xa_Rejected.opq xa_Rejected.ini xa_Rejected.ve xa_Rejected.iC xa_Rejected.tI l k1 q1 q2 ?hfile q3 xa_Rejected.hsm ?S ?hp ?har ?hnd ?hks ?htop ?hst ?hev ?hsw ?hin ?hsw2 ?hf ?hdx ?hdc ?hb
    case hT => simp
    case hfile => first | rfl | kernel_rfl
    case S => decide +kernel
    case hp => rfl
    case har => rfl
    case hnd => decide
    case hks => rfl
    case htop => first | rfl | kernel_rfl
    case hst => intro L; rfl
    case hev => intro L; exact ⟨_, rfl⟩
    case hsw => intro L; rfl
    case hin => intro L; rfl
    case hsw2 => intro L; rfl
    case hf => exact xa_Rejected.hf _ (by simp)
    case hdx => decide
    case hdc => decide
    case hb => intro us hl; exact match us, hl with | [_, _], _ => rfl
  have xck_Rejected : ∀ base : Heap, XC1K PySem.Challenge.rw_twobricks_k01_errors_and_bounds.prog w K mg base [("BadBatch", (He.ga K "BadBatch")), ("BadBox", (He.ga K "BadBox")), ("BadKinds", (He.ga K "BadKinds")), ("BadOrder", (He.ga K "BadOrder")), ("BadPaper", (He.ga K "BadPaper")), ("BadSide", (He.ga K "BadSide")), ("BadText", (He.ga K "BadText")), ("Busy", (He.ga K "Busy")), ("NoAxis", (He.ga K "NoAxis")), ("NoKind", (He.ga K "NoKind")), ("NoNumber", (He.ga K "NoNumber")), ("NoSeam", (He.ga K "NoSeam")), ("NotFilled", (He.ga K "NotFilled")), ("NothingToUndo", (He.ga K "NothingToUndo")), ("NoVersion", (He.ga K "NoVersion")), ("Rejected", (He.ga K "Rejected")), ("TooLarge", (He.ga K "TooLarge")), ("TooManyEdits", (He.ga K "TooManyEdits")), ("Unfit", (He.ga K "Unfit")), ("UnlikeAxes", (He.ga K "UnlikeAxes"))] "Rejected" "index" := by
    intro base
    obtain ⟨oc, od, dc, pm, an, cda, cc, ct, osl, ccl, cdd, cvs, ccs, tf, cl, cld, csl, l, k1, q1, q2, q3⟩ := xa_Rejected.lk
    obtain ⟨cd, hc⟩ := xa_Rejected.c
    refine' DL.xc1k_mk X G ?hT cf_Rejected ac_Rejected hc xa_Rejected.sub xa_Rejected.opq xa_Rejected.ini xa_Rejected.ve xa_Rejected.iC xa_Rejected.tI l k1 q1 q2 ?hfile q3 xa_Rejected.hsm ?S ?hp ?har ?hnd ?hks ?htop ?hst ?hev ?hsw ?hin ?hsw2 ?hf ?hdx ?hdc ?hb
    case hT => simp
    case hfile => first | rfl | kernel_rfl
    case S => decide +kernel
    case hp => rfl
    case har => rfl
    case hnd => decide
    case hks => rfl
    case htop => first | rfl | kernel_rfl
    case hst => intro L; rfl
    case hev => intro L; exact ⟨_, rfl⟩
    case hsw => intro L; rfl
    case hin => intro L; rfl
    case hsw2 => intro L; rfl
    case hf => exact xa_Rejected.hf _ (by simp)
    case hdx => decide
    case hdc => decide
    case hb => intro u0 u1; rfl
  have xa_TooLarge : XFa K "TooLarge" ["axis"] "/claim/cut.py" "TooLarge.__init__" sx_TooLarge := aX_ok (T.x 79 _ rfl) (T.d 21 _ rfl).1 (T.d 21 _ rfl).2 rfl
  have xc_TooLarge : ∀ base : Heap, XC1 PySem.Challenge.rw_twobricks_k01_errors_and_bounds.prog w K mg base [("BadBatch", (He.ga K "BadBatch")), ("BadBox", (He.ga K "BadBox")), ("BadKinds", (He.ga K "BadKinds")), ("BadOrder", (He.ga K "BadOrder")), ("BadPaper", (He.ga K "BadPaper")), ("BadSide", (He.ga K "BadSide")), ("BadText", (He.ga K "BadText")), ("Busy", (He.ga K "Busy")), ("NoAxis", (He.ga K "NoAxis")), ("NoKind", (He.ga K "NoKind")), ("NoNumber", (He.ga K "NoNumber")), ("NoSeam", (He.ga K "NoSeam")), ("NotFilled", (He.ga K "NotFilled")), ("NothingToUndo", (He.ga K "NothingToUndo")), ("NoVersion", (He.ga K "NoVersion")), ("Rejected", (He.ga K "Rejected")), ("TooLarge", (He.ga K "TooLarge")), ("TooManyEdits", (He.ga K "TooManyEdits")), ("Unfit", (He.ga K "Unfit")), ("UnlikeAxes", (He.ga K "UnlikeAxes"))] "TooLarge" "axis" := by
    intro base
    obtain ⟨oc, od, dc, pm, an, cda, cc, ct, osl, ccl, cdd, cvs, ccs, tf, cl, cld, csl, l, k1, q1, q2, q3⟩ := xa_TooLarge.lk
    obtain ⟨cd, hc⟩ := xa_TooLarge.c
    refine' DL.xc1_mk X G ?hT cf_TooLarge ac_TooLarge hc xa_TooLarge.sub xa_TooLarge.opq xa_TooLarge.ini xa_TooLarge.ve xa_TooLarge.iC xa_TooLarge.tI l k1 q1 q2 ?hfile q3 xa_TooLarge.hsm ?S ?hp ?har ?hnd ?hks ?htop ?hst ?hev ?hsw ?hin ?hsw2 ?hf ?hdx ?hdc ?hb
    case hT => simp
    case hfile => first | rfl | kernel_rfl
    case S => decide +kernel
    case hp => rfl
    case har => rfl
    case hnd => decide
    case hks => rfl
    case htop => first | rfl | kernel_rfl
    case hst => intro L; rfl
    case hev => intro L; exact ⟨_, rfl⟩
    case hsw => intro L; rfl
    case hin => intro L; rfl
    case hsw2 => intro L; rfl
    case hf => exact xa_TooLarge.hf _ (by simp)
    case hdx => decide
    case hdc => decide
    case hb => intro us hl; exact match us, hl with | [_, _], _ => rfl
  have xck_TooLarge : ∀ base : Heap, XC1K PySem.Challenge.rw_twobricks_k01_errors_and_bounds.prog w K mg base [("BadBatch", (He.ga K "BadBatch")), ("BadBox", (He.ga K "BadBox")), ("BadKinds", (He.ga K "BadKinds")), ("BadOrder", (He.ga K "BadOrder")), ("BadPaper", (He.ga K "BadPaper")), ("BadSide", (He.ga K "BadSide")), ("BadText", (He.ga K "BadText")), ("Busy", (He.ga K "Busy")), ("NoAxis", (He.ga K "NoAxis")), ("NoKind", (He.ga K "NoKind")), ("NoNumber", (He.ga K "NoNumber")), ("NoSeam", (He.ga K "NoSeam")), ("NotFilled", (He.ga K "NotFilled")), ("NothingToUndo", (He.ga K "NothingToUndo")), ("NoVersion", (He.ga K "NoVersion")), ("Rejected", (He.ga K "Rejected")), ("TooLarge", (He.ga K "TooLarge")), ("TooManyEdits", (He.ga K "TooManyEdits")), ("Unfit", (He.ga K "Unfit")), ("UnlikeAxes", (He.ga K "UnlikeAxes"))] "TooLarge" "axis" := by
    intro base
    obtain ⟨oc, od, dc, pm, an, cda, cc, ct, osl, ccl, cdd, cvs, ccs, tf, cl, cld, csl, l, k1, q1, q2, q3⟩ := xa_TooLarge.lk
    obtain ⟨cd, hc⟩ := xa_TooLarge.c
    refine' DL.xc1k_mk X G ?hT cf_TooLarge ac_TooLarge hc xa_TooLarge.sub xa_TooLarge.opq xa_TooLarge.ini xa_TooLarge.ve xa_TooLarge.iC xa_TooLarge.tI l k1 q1 q2 ?hfile q3 xa_TooLarge.hsm ?S ?hp ?har ?hnd ?hks ?htop ?hst ?hev ?hsw ?hin ?hsw2 ?hf ?hdx ?hdc ?hb
    case hT => simp
    case hfile => first | rfl | kernel_rfl
    case S => decide +kernel
    case hp => rfl
    case har => rfl
    case hnd => decide
    case hks => rfl
    case htop => first | rfl | kernel_rfl
    case hst => intro L; rfl
    case hev => intro L; exact ⟨_, rfl⟩
    case hsw => intro L; rfl
    case hin => intro L; rfl
    case hsw2 => intro L; rfl
    case hf => exact xa_TooLarge.hf _ (by simp)
    case hdx => decide
    case hdc => decide
    case hb => intro u0 u1; rfl
  have xc_TooManyEdits : XC0 K mg [("BadBatch", (He.ga K "BadBatch")), ("BadBox", (He.ga K "BadBox")), ("BadKinds", (He.ga K "BadKinds")), ("BadOrder", (He.ga K "BadOrder")), ("BadPaper", (He.ga K "BadPaper")), ("BadSide", (He.ga K "BadSide")), ("BadText", (He.ga K "BadText")), ("Busy", (He.ga K "Busy")), ("NoAxis", (He.ga K "NoAxis")), ("NoKind", (He.ga K "NoKind")), ("NoNumber", (He.ga K "NoNumber")), ("NoSeam", (He.ga K "NoSeam")), ("NotFilled", (He.ga K "NotFilled")), ("NothingToUndo", (He.ga K "NothingToUndo")), ("NoVersion", (He.ga K "NoVersion")), ("Rejected", (He.ga K "Rejected")), ("TooLarge", (He.ga K "TooLarge")), ("TooManyEdits", (He.ga K "TooManyEdits")), ("Unfit", (He.ga K "Unfit")), ("UnlikeAxes", (He.ga K "UnlikeAxes"))] "TooManyEdits" := xc0_mk X G (by simp) cf_TooManyEdits ac_TooManyEdits (T.x 80 _ rfl)
  have xc_Unfit : XC0 K mg [("BadBatch", (He.ga K "BadBatch")), ("BadBox", (He.ga K "BadBox")), ("BadKinds", (He.ga K "BadKinds")), ("BadOrder", (He.ga K "BadOrder")), ("BadPaper", (He.ga K "BadPaper")), ("BadSide", (He.ga K "BadSide")), ("BadText", (He.ga K "BadText")), ("Busy", (He.ga K "Busy")), ("NoAxis", (He.ga K "NoAxis")), ("NoKind", (He.ga K "NoKind")), ("NoNumber", (He.ga K "NoNumber")), ("NoSeam", (He.ga K "NoSeam")), ("NotFilled", (He.ga K "NotFilled")), ("NothingToUndo", (He.ga K "NothingToUndo")), ("NoVersion", (He.ga K "NoVersion")), ("Rejected", (He.ga K "Rejected")), ("TooLarge", (He.ga K "TooLarge")), ("TooManyEdits", (He.ga K "TooManyEdits")), ("Unfit", (He.ga K "Unfit")), ("UnlikeAxes", (He.ga K "UnlikeAxes"))] "Unfit" := xc0_mk X G (by simp) cf_Unfit ac_Unfit (T.x 81 _ rfl)
  have xc_UnlikeAxes : XC0 K mg [("BadBatch", (He.ga K "BadBatch")), ("BadBox", (He.ga K "BadBox")), ("BadKinds", (He.ga K "BadKinds")), ("BadOrder", (He.ga K "BadOrder")), ("BadPaper", (He.ga K "BadPaper")), ("BadSide", (He.ga K "BadSide")), ("BadText", (He.ga K "BadText")), ("Busy", (He.ga K "Busy")), ("NoAxis", (He.ga K "NoAxis")), ("NoKind", (He.ga K "NoKind")), ("NoNumber", (He.ga K "NoNumber")), ("NoSeam", (He.ga K "NoSeam")), ("NotFilled", (He.ga K "NotFilled")), ("NothingToUndo", (He.ga K "NothingToUndo")), ("NoVersion", (He.ga K "NoVersion")), ("Rejected", (He.ga K "Rejected")), ("TooLarge", (He.ga K "TooLarge")), ("TooManyEdits", (He.ga K "TooManyEdits")), ("Unfit", (He.ga K "Unfit")), ("UnlikeAxes", (He.ga K "UnlikeAxes"))] "UnlikeAxes" := xc0_mk X G (by simp) cf_UnlikeAxes ac_UnlikeAxes (T.x 82 _ rfl)
  have ksq : aKitSq ["BadBatch", "BadBox", "BadKinds", "BadOrder", "BadPaper", "BadSide", "BadText", "Busy", "NoAxis", "NoKind", "NoNumber", "NoSeam", "NotFilled", "NothingToUndo", "NoVersion", "Rejected", "TooLarge", "TooManyEdits", "Unfit", "UnlikeAxes"] K = true := (T.x 83 _ rfl)
  have fc_axis : aNAll ["BadBatch", "BadBox", "BadKinds", "BadOrder", "BadPaper", "BadSide", "BadText", "Busy", "NoAxis", "NoKind", "NoNumber", "NoSeam", "NotFilled", "NothingToUndo", "NoVersion", "Rejected", "TooLarge", "TooManyEdits", "Unfit", "UnlikeAxes"] "axis" K = true := (T.x 84 _ rfl)
  have fc_index : aNAll ["BadBatch", "BadBox", "BadKinds", "BadOrder", "BadPaper", "BadSide", "BadText", "Busy", "NoAxis", "NoKind", "NoNumber", "NoSeam", "NotFilled", "NothingToUndo", "NoVersion", "Rejected", "TooLarge", "TooManyEdits", "Unfit", "UnlikeAxes"] "index" K = true := (T.x 85 _ rfl)
  have fc_given : aNAll ["BadBatch", "BadBox", "BadKinds", "BadOrder", "BadPaper", "BadSide", "BadText", "Busy", "NoAxis", "NoKind", "NoNumber", "NoSeam", "NotFilled", "NothingToUndo", "NoVersion", "Rejected", "TooLarge", "TooManyEdits", "Unfit", "UnlikeAxes"] "given" K = true := (T.x 86 _ rfl)
  have fc_reason : aNAll ["BadBatch", "BadBox", "BadKinds", "BadOrder", "BadPaper", "BadSide", "BadText", "Busy", "NoAxis", "NoKind", "NoNumber", "NoSeam", "NotFilled", "NothingToUndo", "NoVersion", "Rejected", "TooLarge", "TooManyEdits", "Unfit", "UnlikeAxes"] "reason" K = true := (T.x 87 _ rfl)
  have fc_number : aNAll ["BadBatch", "BadBox", "BadKinds", "BadOrder", "BadPaper", "BadSide", "BadText", "Busy", "NoAxis", "NoKind", "NoNumber", "NoSeam", "NotFilled", "NothingToUndo", "NoVersion", "Rejected", "TooLarge", "TooManyEdits", "Unfit", "UnlikeAxes"] "number" K = true := (T.x 88 _ rfl)
  have fc_place : aNAll ["BadBatch", "BadBox", "BadKinds", "BadOrder", "BadPaper", "BadSide", "BadText", "Busy", "NoAxis", "NoKind", "NoNumber", "NoSeam", "NotFilled", "NothingToUndo", "NoVersion", "Rejected", "TooLarge", "TooManyEdits", "Unfit", "UnlikeAxes"] "place" K = true := (T.x 89 _ rfl)
  have fc_error : aNAll ["BadBatch", "BadBox", "BadKinds", "BadOrder", "BadPaper", "BadSide", "BadText", "Busy", "NoAxis", "NoKind", "NoNumber", "NoSeam", "NotFilled", "NothingToUndo", "NoVersion", "Rejected", "TooLarge", "TooManyEdits", "Unfit", "UnlikeAxes"] "error" K = true := (T.x 90 _ rfl)
  have kt_ValueError : aKitAll ["BadBatch", "BadBox", "BadKinds", "BadOrder", "BadPaper", "BadSide", "BadText", "Busy", "NoAxis", "NoKind", "NoNumber", "NoSeam", "NotFilled", "NothingToUndo", "NoVersion", "Rejected", "TooLarge", "TooManyEdits", "Unfit", "UnlikeAxes"] (fun _ => .type "ValueError") K = true := (T.x 91 _ rfl)
  have ah_BrickError : W.nsIn K mainGlobals "BrickError" = some (some (.ref (He.ga K "BrickError"))) := aG_ok (T.x 92 _ rfl)
  have kt_BrickError : aKitAll ["BadBatch", "BadBox", "BadKinds", "BadOrder", "BadPaper", "BadSide", "BadText", "Busy", "NoAxis", "NoKind", "NoNumber", "NoSeam", "NotFilled", "NothingToUndo", "NoVersion", "Rejected", "TooLarge", "TooManyEdits", "Unfit", "UnlikeAxes"] (fun K => .ref (He.ga K "BrickError")) K = true := (T.x 93 _ rfl)
  have fc_at : aNAll ["BadBatch", "BadBox", "BadKinds", "BadOrder", "BadPaper", "BadSide", "BadText", "Busy", "NoAxis", "NoKind", "NoNumber", "NoSeam", "NotFilled", "NothingToUndo", "NoVersion", "Rejected", "TooLarge", "TooManyEdits", "Unfit", "UnlikeAxes"] "at" K = true := (T.x 94 _ rfl)
  have e_law : ∀ (s : Shared) (v : Value), BindsTo s fd_law ⟨[v], []⟩ [("_law_script", v)] := by
    obtain ⟨_, _, kV, _, _, _, _, _, _, rfl, _, _⟩ := F_law.ex
    exact fun s v => .of_eq rfl
  refine ⟨fd_law, e_law, fun base _ _ hT => ?_⟩
  have O_Ldeck := ok_Ldeck (P := PySem.Challenge.rw_twobricks_k01_errors_and_bounds.prog) (w := w) (base := base) (mg := mg) F_Ldeck (W.mg_none_of X G z_abs) (W.mg_none_of X G z_len)
  have O_Ldraw := ok_Ldraw (P := PySem.Challenge.rw_twobricks_k01_errors_and_bounds.prog) (w := w) (base := base) (mg := mg) F_Ldraw (W.mg_none_of X G z_int) (W.mg_none_of X G z_len)
  have O_Lclasses := ok_Lclasses (TL := [("BadBatch", (He.ga K "BadBatch")), ("BadBox", (He.ga K "BadBox")), ("BadKinds", (He.ga K "BadKinds")), ("BadOrder", (He.ga K "BadOrder")), ("BadPaper", (He.ga K "BadPaper")), ("BadSide", (He.ga K "BadSide")), ("BadText", (He.ga K "BadText")), ("Busy", (He.ga K "Busy")), ("NoAxis", (He.ga K "NoAxis")), ("NoKind", (He.ga K "NoKind")), ("NoNumber", (He.ga K "NoNumber")), ("NoSeam", (He.ga K "NoSeam")), ("NotFilled", (He.ga K "NotFilled")), ("NothingToUndo", (He.ga K "NothingToUndo")), ("NoVersion", (He.ga K "NoVersion")), ("Rejected", (He.ga K "Rejected")), ("TooLarge", (He.ga K "TooLarge")), ("TooManyEdits", (He.ga K "TooManyEdits")), ("Unfit", (He.ga K "Unfit")), ("UnlikeAxes", (He.ga K "UnlikeAxes"))]) (P := PySem.Challenge.rw_twobricks_k01_errors_and_bounds.prog) (w := w) (base := base) (mg := mg) F_Lclasses (W.mg_none_of X G z_isinstance) (TLG.names (allT_of (p := fun n C => W.nsIn K mainGlobals n = some (some (.ref C))) ⟨ac_BadBatch, ac_BadBox, ac_BadKinds, ac_BadOrder, ac_BadPaper, ac_BadSide, ac_BadText, ac_Busy, ac_NoAxis, ac_NoKind, ac_NoNumber, ac_NoSeam, ac_NotFilled, ac_NothingToUndo, ac_NoVersion, ac_Rejected, ac_TooLarge, ac_TooManyEdits, ac_Unfit, ac_UnlikeAxes, trivial⟩) (names_in (K := K) (ns := ["BadBatch", "BadBox", "BadKinds", "BadOrder", "BadPaper", "BadSide", "BadText", "Busy", "NoAxis", "NoKind", "NoNumber", "NoSeam", "NotFilled", "NothingToUndo", "NoVersion", "Rejected", "TooLarge", "TooManyEdits", "Unfit", "UnlikeAxes"]))) ⟨_, W.mg_of X G ac_UnlikeAxes, kitSq_ok (ns := ["BadBatch", "BadBox", "BadKinds", "BadOrder", "BadPaper", "BadSide", "BadText", "Busy", "NoAxis", "NoKind", "NoNumber", "NoSeam", "NotFilled", "NothingToUndo", "NoVersion", "Rejected", "TooLarge", "TooManyEdits", "Unfit", "UnlikeAxes"]) ksq (by decide)⟩ ⟨_, W.mg_of X G ac_Unfit, kitSq_ok (ns := ["BadBatch", "BadBox", "BadKinds", "BadOrder", "BadPaper", "BadSide", "BadText", "Busy", "NoAxis", "NoKind", "NoNumber", "NoSeam", "NotFilled", "NothingToUndo", "NoVersion", "Rejected", "TooLarge", "TooManyEdits", "Unfit", "UnlikeAxes"]) ksq (by decide)⟩ ⟨_, W.mg_of X G ac_TooManyEdits, kitSq_ok (ns := ["BadBatch", "BadBox", "BadKinds", "BadOrder", "BadPaper", "BadSide", "BadText", "Busy", "NoAxis", "NoKind", "NoNumber", "NoSeam", "NotFilled", "NothingToUndo", "NoVersion", "Rejected", "TooLarge", "TooManyEdits", "Unfit", "UnlikeAxes"]) ksq (by decide)⟩ ⟨_, W.mg_of X G ac_TooLarge, kitSq_ok (ns := ["BadBatch", "BadBox", "BadKinds", "BadOrder", "BadPaper", "BadSide", "BadText", "Busy", "NoAxis", "NoKind", "NoNumber", "NoSeam", "NotFilled", "NothingToUndo", "NoVersion", "Rejected", "TooLarge", "TooManyEdits", "Unfit", "UnlikeAxes"]) ksq (by decide)⟩ ⟨_, W.mg_of X G ac_Rejected, kitSq_ok (ns := ["BadBatch", "BadBox", "BadKinds", "BadOrder", "BadPaper", "BadSide", "BadText", "Busy", "NoAxis", "NoKind", "NoNumber", "NoSeam", "NotFilled", "NothingToUndo", "NoVersion", "Rejected", "TooLarge", "TooManyEdits", "Unfit", "UnlikeAxes"]) ksq (by decide)⟩ ⟨_, W.mg_of X G ac_NoVersion, kitSq_ok (ns := ["BadBatch", "BadBox", "BadKinds", "BadOrder", "BadPaper", "BadSide", "BadText", "Busy", "NoAxis", "NoKind", "NoNumber", "NoSeam", "NotFilled", "NothingToUndo", "NoVersion", "Rejected", "TooLarge", "TooManyEdits", "Unfit", "UnlikeAxes"]) ksq (by decide)⟩ ⟨_, W.mg_of X G ac_NothingToUndo, kitSq_ok (ns := ["BadBatch", "BadBox", "BadKinds", "BadOrder", "BadPaper", "BadSide", "BadText", "Busy", "NoAxis", "NoKind", "NoNumber", "NoSeam", "NotFilled", "NothingToUndo", "NoVersion", "Rejected", "TooLarge", "TooManyEdits", "Unfit", "UnlikeAxes"]) ksq (by decide)⟩ ⟨_, W.mg_of X G ac_NotFilled, kitSq_ok (ns := ["BadBatch", "BadBox", "BadKinds", "BadOrder", "BadPaper", "BadSide", "BadText", "Busy", "NoAxis", "NoKind", "NoNumber", "NoSeam", "NotFilled", "NothingToUndo", "NoVersion", "Rejected", "TooLarge", "TooManyEdits", "Unfit", "UnlikeAxes"]) ksq (by decide)⟩ ⟨_, W.mg_of X G ac_NoSeam, kitSq_ok (ns := ["BadBatch", "BadBox", "BadKinds", "BadOrder", "BadPaper", "BadSide", "BadText", "Busy", "NoAxis", "NoKind", "NoNumber", "NoSeam", "NotFilled", "NothingToUndo", "NoVersion", "Rejected", "TooLarge", "TooManyEdits", "Unfit", "UnlikeAxes"]) ksq (by decide)⟩ ⟨_, W.mg_of X G ac_NoNumber, kitSq_ok (ns := ["BadBatch", "BadBox", "BadKinds", "BadOrder", "BadPaper", "BadSide", "BadText", "Busy", "NoAxis", "NoKind", "NoNumber", "NoSeam", "NotFilled", "NothingToUndo", "NoVersion", "Rejected", "TooLarge", "TooManyEdits", "Unfit", "UnlikeAxes"]) ksq (by decide)⟩ ⟨_, W.mg_of X G ac_NoKind, kitSq_ok (ns := ["BadBatch", "BadBox", "BadKinds", "BadOrder", "BadPaper", "BadSide", "BadText", "Busy", "NoAxis", "NoKind", "NoNumber", "NoSeam", "NotFilled", "NothingToUndo", "NoVersion", "Rejected", "TooLarge", "TooManyEdits", "Unfit", "UnlikeAxes"]) ksq (by decide)⟩ ⟨_, W.mg_of X G ac_NoAxis, kitSq_ok (ns := ["BadBatch", "BadBox", "BadKinds", "BadOrder", "BadPaper", "BadSide", "BadText", "Busy", "NoAxis", "NoKind", "NoNumber", "NoSeam", "NotFilled", "NothingToUndo", "NoVersion", "Rejected", "TooLarge", "TooManyEdits", "Unfit", "UnlikeAxes"]) ksq (by decide)⟩ ⟨_, W.mg_of X G ac_Busy, kitSq_ok (ns := ["BadBatch", "BadBox", "BadKinds", "BadOrder", "BadPaper", "BadSide", "BadText", "Busy", "NoAxis", "NoKind", "NoNumber", "NoSeam", "NotFilled", "NothingToUndo", "NoVersion", "Rejected", "TooLarge", "TooManyEdits", "Unfit", "UnlikeAxes"]) ksq (by decide)⟩ ⟨_, W.mg_of X G ac_BadText, kitSq_ok (ns := ["BadBatch", "BadBox", "BadKinds", "BadOrder", "BadPaper", "BadSide", "BadText", "Busy", "NoAxis", "NoKind", "NoNumber", "NoSeam", "NotFilled", "NothingToUndo", "NoVersion", "Rejected", "TooLarge", "TooManyEdits", "Unfit", "UnlikeAxes"]) ksq (by decide)⟩ ⟨_, W.mg_of X G ac_BadSide, kitSq_ok (ns := ["BadBatch", "BadBox", "BadKinds", "BadOrder", "BadPaper", "BadSide", "BadText", "Busy", "NoAxis", "NoKind", "NoNumber", "NoSeam", "NotFilled", "NothingToUndo", "NoVersion", "Rejected", "TooLarge", "TooManyEdits", "Unfit", "UnlikeAxes"]) ksq (by decide)⟩ ⟨_, W.mg_of X G ac_BadPaper, kitSq_ok (ns := ["BadBatch", "BadBox", "BadKinds", "BadOrder", "BadPaper", "BadSide", "BadText", "Busy", "NoAxis", "NoKind", "NoNumber", "NoSeam", "NotFilled", "NothingToUndo", "NoVersion", "Rejected", "TooLarge", "TooManyEdits", "Unfit", "UnlikeAxes"]) ksq (by decide)⟩ ⟨_, W.mg_of X G ac_BadOrder, kitSq_ok (ns := ["BadBatch", "BadBox", "BadKinds", "BadOrder", "BadPaper", "BadSide", "BadText", "Busy", "NoAxis", "NoKind", "NoNumber", "NoSeam", "NotFilled", "NothingToUndo", "NoVersion", "Rejected", "TooLarge", "TooManyEdits", "Unfit", "UnlikeAxes"]) ksq (by decide)⟩ ⟨_, W.mg_of X G ac_BadKinds, kitSq_ok (ns := ["BadBatch", "BadBox", "BadKinds", "BadOrder", "BadPaper", "BadSide", "BadText", "Busy", "NoAxis", "NoKind", "NoNumber", "NoSeam", "NotFilled", "NothingToUndo", "NoVersion", "Rejected", "TooLarge", "TooManyEdits", "Unfit", "UnlikeAxes"]) ksq (by decide)⟩ ⟨_, W.mg_of X G ac_BadBox, kitSq_ok (ns := ["BadBatch", "BadBox", "BadKinds", "BadOrder", "BadPaper", "BadSide", "BadText", "Busy", "NoAxis", "NoKind", "NoNumber", "NoSeam", "NotFilled", "NothingToUndo", "NoVersion", "Rejected", "TooLarge", "TooManyEdits", "Unfit", "UnlikeAxes"]) ksq (by decide)⟩ ⟨_, W.mg_of X G ac_BadBatch, kitSq_ok (ns := ["BadBatch", "BadBox", "BadKinds", "BadOrder", "BadPaper", "BadSide", "BadText", "Busy", "NoAxis", "NoKind", "NoNumber", "NoSeam", "NotFilled", "NothingToUndo", "NoVersion", "Rejected", "TooLarge", "TooManyEdits", "Unfit", "UnlikeAxes"]) ksq (by decide)⟩ (allT_of ⟨cf_BadBatch, cf_BadBox, cf_BadKinds, cf_BadOrder, cf_BadPaper, cf_BadSide, cf_BadText, cf_Busy, cf_NoAxis, cf_NoKind, cf_NoNumber, cf_NoSeam, cf_NotFilled, cf_NothingToUndo, cf_NoVersion, cf_Rejected, cf_TooLarge, cf_TooManyEdits, cf_Unfit, cf_UnlikeAxes, trivial⟩)
  have O_Lone := ok_Lone (P := PySem.Challenge.rw_twobricks_k01_errors_and_bounds.prog) (w := w) (base := base) (mg := mg) F_Lone (W.mg_none_of X G z_len) O_Ldraw ⟨W.mg_of X G a_Ldraw, k_Ldraw, b_Ldraw⟩
  have O_Lodd := ok_Lodd (P := PySem.Challenge.rw_twobricks_k01_errors_and_bounds.prog) (w := w) (base := base) (mg := mg) F_Lodd O_Lone ⟨W.mg_of X G a_Lone, k_Lone, b_Lone⟩
  have O_Lmade := ok_Lmade (TL := [("BadBatch", (He.ga K "BadBatch")), ("BadBox", (He.ga K "BadBox")), ("BadKinds", (He.ga K "BadKinds")), ("BadOrder", (He.ga K "BadOrder")), ("BadPaper", (He.ga K "BadPaper")), ("BadSide", (He.ga K "BadSide")), ("BadText", (He.ga K "BadText")), ("Busy", (He.ga K "Busy")), ("NoAxis", (He.ga K "NoAxis")), ("NoKind", (He.ga K "NoKind")), ("NoNumber", (He.ga K "NoNumber")), ("NoSeam", (He.ga K "NoSeam")), ("NotFilled", (He.ga K "NotFilled")), ("NothingToUndo", (He.ga K "NothingToUndo")), ("NoVersion", (He.ga K "NoVersion")), ("Rejected", (He.ga K "Rejected")), ("TooLarge", (He.ga K "TooLarge")), ("TooManyEdits", (He.ga K "TooManyEdits")), ("Unfit", (He.ga K "Unfit")), ("UnlikeAxes", (He.ga K "UnlikeAxes"))]) (P := PySem.Challenge.rw_twobricks_k01_errors_and_bounds.prog) (w := w) (base := base) (mg := mg) F_Lmade xc_BadBatch (xc_BadBox base) (xc_BadKinds base) (xc_BadOrder base) (xc_BadPaper base) (xc_BadSide base) (xc_BadText base) xc_Busy (xc_NoAxis base) (xc_NoKind base) (xc_NoNumber base) (xc_NoSeam base) (xc_NotFilled base) xc_NothingToUndo (xc_NoVersion base) (xc_Rejected base) (xc_TooLarge base) xc_TooManyEdits xc_Unfit xc_UnlikeAxes (allT_of (p := fun n C => W.nsIn K mainGlobals n = some (some (.ref C))) ⟨ac_BadBatch, ac_BadBox, ac_BadKinds, ac_BadOrder, ac_BadPaper, ac_BadSide, ac_BadText, ac_Busy, ac_NoAxis, ac_NoKind, ac_NoNumber, ac_NoSeam, ac_NotFilled, ac_NothingToUndo, ac_NoVersion, ac_Rejected, ac_TooLarge, ac_TooManyEdits, ac_Unfit, ac_UnlikeAxes, trivial⟩)
  have O_Lfields := ok_Lfields (TL := [("BadBatch", (He.ga K "BadBatch")), ("BadBox", (He.ga K "BadBox")), ("BadKinds", (He.ga K "BadKinds")), ("BadOrder", (He.ga K "BadOrder")), ("BadPaper", (He.ga K "BadPaper")), ("BadSide", (He.ga K "BadSide")), ("BadText", (He.ga K "BadText")), ("Busy", (He.ga K "Busy")), ("NoAxis", (He.ga K "NoAxis")), ("NoKind", (He.ga K "NoKind")), ("NoNumber", (He.ga K "NoNumber")), ("NoSeam", (He.ga K "NoSeam")), ("NotFilled", (He.ga K "NotFilled")), ("NothingToUndo", (He.ga K "NothingToUndo")), ("NoVersion", (He.ga K "NoVersion")), ("Rejected", (He.ga K "Rejected")), ("TooLarge", (He.ga K "TooLarge")), ("TooManyEdits", (He.ga K "TooManyEdits")), ("Unfit", (He.ga K "Unfit")), ("UnlikeAxes", (He.ga K "UnlikeAxes"))]) (P := PySem.Challenge.rw_twobricks_k01_errors_and_bounds.prog) (w := w) (base := base) (mg := mg) F_Lfields (xck_TooLarge base) (xck_Rejected base) (xck_NoVersion base) (xck_NotFilled base) (xck_NoSeam base) (xck_NoNumber base) (xck_NoKind base) (xck_NoAxis base) (xck_BadText base) (xck_BadSide base) (xck_BadPaper base) (xck_BadOrder base) (xck_BadKinds base) (xck_BadBox base) (allT_of (p := fun n C => W.nsIn K mainGlobals n = some (some (.ref C))) ⟨ac_BadBatch, ac_BadBox, ac_BadKinds, ac_BadOrder, ac_BadPaper, ac_BadSide, ac_BadText, ac_Busy, ac_NoAxis, ac_NoKind, ac_NoNumber, ac_NoSeam, ac_NotFilled, ac_NothingToUndo, ac_NoVersion, ac_Rejected, ac_TooLarge, ac_TooManyEdits, ac_Unfit, ac_UnlikeAxes, trivial⟩) (TLG.names (allT_of (p := fun n C => W.nsIn K mainGlobals n = some (some (.ref C))) ⟨ac_BadBatch, ac_BadBox, ac_BadKinds, ac_BadOrder, ac_BadPaper, ac_BadSide, ac_BadText, ac_Busy, ac_NoAxis, ac_NoKind, ac_NoNumber, ac_NoSeam, ac_NotFilled, ac_NothingToUndo, ac_NoVersion, ac_Rejected, ac_TooLarge, ac_TooManyEdits, ac_Unfit, ac_UnlikeAxes, trivial⟩) (names_in (K := K) (ns := ["BadBatch", "BadBox", "BadKinds", "BadOrder", "BadPaper", "BadSide", "BadText", "Busy", "NoAxis", "NoKind", "NoNumber", "NoSeam", "NotFilled", "NothingToUndo", "NoVersion", "Rejected", "TooLarge", "TooManyEdits", "Unfit", "UnlikeAxes"]))) (allT_of ⟨cf_BadBatch, cf_BadBox, cf_BadKinds, cf_BadOrder, cf_BadPaper, cf_BadSide, cf_BadText, cf_Busy, cf_NoAxis, cf_NoKind, cf_NoNumber, cf_NoSeam, cf_NotFilled, cf_NothingToUndo, cf_NoVersion, cf_Rejected, cf_TooLarge, cf_TooManyEdits, cf_Unfit, cf_UnlikeAxes, trivial⟩) (nAll_ok (ns := ["BadBatch", "BadBox", "BadKinds", "BadOrder", "BadPaper", "BadSide", "BadText", "Busy", "NoAxis", "NoKind", "NoNumber", "NoSeam", "NotFilled", "NothingToUndo", "NoVersion", "Rejected", "TooLarge", "TooManyEdits", "Unfit", "UnlikeAxes"]) fc_axis) (nAll_ok (ns := ["BadBatch", "BadBox", "BadKinds", "BadOrder", "BadPaper", "BadSide", "BadText", "Busy", "NoAxis", "NoKind", "NoNumber", "NoSeam", "NotFilled", "NothingToUndo", "NoVersion", "Rejected", "TooLarge", "TooManyEdits", "Unfit", "UnlikeAxes"]) fc_index) (nAll_ok (ns := ["BadBatch", "BadBox", "BadKinds", "BadOrder", "BadPaper", "BadSide", "BadText", "Busy", "NoAxis", "NoKind", "NoNumber", "NoSeam", "NotFilled", "NothingToUndo", "NoVersion", "Rejected", "TooLarge", "TooManyEdits", "Unfit", "UnlikeAxes"]) fc_given) (nAll_ok (ns := ["BadBatch", "BadBox", "BadKinds", "BadOrder", "BadPaper", "BadSide", "BadText", "Busy", "NoAxis", "NoKind", "NoNumber", "NoSeam", "NotFilled", "NothingToUndo", "NoVersion", "Rejected", "TooLarge", "TooManyEdits", "Unfit", "UnlikeAxes"]) fc_reason) (nAll_ok (ns := ["BadBatch", "BadBox", "BadKinds", "BadOrder", "BadPaper", "BadSide", "BadText", "Busy", "NoAxis", "NoKind", "NoNumber", "NoSeam", "NotFilled", "NothingToUndo", "NoVersion", "Rejected", "TooLarge", "TooManyEdits", "Unfit", "UnlikeAxes"]) fc_number) (nAll_ok (ns := ["BadBatch", "BadBox", "BadKinds", "BadOrder", "BadPaper", "BadSide", "BadText", "Busy", "NoAxis", "NoKind", "NoNumber", "NoSeam", "NotFilled", "NothingToUndo", "NoVersion", "Rejected", "TooLarge", "TooManyEdits", "Unfit", "UnlikeAxes"]) fc_place) (nAll_ok (ns := ["BadBatch", "BadBox", "BadKinds", "BadOrder", "BadPaper", "BadSide", "BadText", "Busy", "NoAxis", "NoKind", "NoNumber", "NoSeam", "NotFilled", "NothingToUndo", "NoVersion", "Rejected", "TooLarge", "TooManyEdits", "Unfit", "UnlikeAxes"]) fc_error)
  have O_law := ok_law (TL := [("BadBatch", (He.ga K "BadBatch")), ("BadBox", (He.ga K "BadBox")), ("BadKinds", (He.ga K "BadKinds")), ("BadOrder", (He.ga K "BadOrder")), ("BadPaper", (He.ga K "BadPaper")), ("BadSide", (He.ga K "BadSide")), ("BadText", (He.ga K "BadText")), ("Busy", (He.ga K "Busy")), ("NoAxis", (He.ga K "NoAxis")), ("NoKind", (He.ga K "NoKind")), ("NoNumber", (He.ga K "NoNumber")), ("NoSeam", (He.ga K "NoSeam")), ("NotFilled", (He.ga K "NotFilled")), ("NothingToUndo", (He.ga K "NothingToUndo")), ("NoVersion", (He.ga K "NoVersion")), ("Rejected", (He.ga K "Rejected")), ("TooLarge", (He.ga K "TooLarge")), ("TooManyEdits", (He.ga K "TooManyEdits")), ("Unfit", (He.ga K "Unfit")), ("UnlikeAxes", (He.ga K "UnlikeAxes"))]) (P := PySem.Challenge.rw_twobricks_k01_errors_and_bounds.prog) (w := w) (base := base) (mg := mg) F_law (W.mg_none_of X G z_range) (W.mg_none_of X G z_repr) (W.mg_none_of X G z_isinstance) (W.mg_none_of X G z_ValueError) v_BATCH v_HISTORY v_MAX_ROWS v_MAX_FEW v_MAX_CELLS v_MAX_KINDS v_MAX_SIDE v_MAX_DIMS O_Lfields ⟨W.mg_of X G a_Lfields, k_Lfields, b_Lfields⟩ O_Lclasses ⟨W.mg_of X G a_Lclasses, k_Lclasses, b_Lclasses⟩ O_Lmade ⟨W.mg_of X G a_Lmade, k_Lmade, b_Lmade⟩ O_Lodd ⟨W.mg_of X G a_Lodd, k_Lodd, b_Lodd⟩ O_Ldeck ⟨W.mg_of X G a_Ldeck, k_Ldeck, b_Ldeck⟩ (xck_NoSeam base) (allT_of (p := fun n C => W.nsIn K mainGlobals n = some (some (.ref C))) ⟨ac_BadBatch, ac_BadBox, ac_BadKinds, ac_BadOrder, ac_BadPaper, ac_BadSide, ac_BadText, ac_Busy, ac_NoAxis, ac_NoKind, ac_NoNumber, ac_NoSeam, ac_NotFilled, ac_NothingToUndo, ac_NoVersion, ac_Rejected, ac_TooLarge, ac_TooManyEdits, ac_Unfit, ac_UnlikeAxes, trivial⟩) (TLG.names (allT_of (p := fun n C => W.nsIn K mainGlobals n = some (some (.ref C))) ⟨ac_BadBatch, ac_BadBox, ac_BadKinds, ac_BadOrder, ac_BadPaper, ac_BadSide, ac_BadText, ac_Busy, ac_NoAxis, ac_NoKind, ac_NoNumber, ac_NoSeam, ac_NotFilled, ac_NothingToUndo, ac_NoVersion, ac_Rejected, ac_TooLarge, ac_TooManyEdits, ac_Unfit, ac_UnlikeAxes, trivial⟩) (names_in (K := K) (ns := ["BadBatch", "BadBox", "BadKinds", "BadOrder", "BadPaper", "BadSide", "BadText", "Busy", "NoAxis", "NoKind", "NoNumber", "NoSeam", "NotFilled", "NothingToUndo", "NoVersion", "Rejected", "TooLarge", "TooManyEdits", "Unfit", "UnlikeAxes"]))) ⟨W.mg_none_of X G z_ValueError, by rfl, kitAll_ok (ns := ["BadBatch", "BadBox", "BadKinds", "BadOrder", "BadPaper", "BadSide", "BadText", "Busy", "NoAxis", "NoKind", "NoNumber", "NoSeam", "NotFilled", "NothingToUndo", "NoVersion", "Rejected", "TooLarge", "TooManyEdits", "Unfit", "UnlikeAxes"]) kt_ValueError⟩ ⟨_, W.mg_of X G ah_BrickError, kitAll_ok (ns := ["BadBatch", "BadBox", "BadKinds", "BadOrder", "BadPaper", "BadSide", "BadText", "Busy", "NoAxis", "NoKind", "NoNumber", "NoSeam", "NotFilled", "NothingToUndo", "NoVersion", "Rejected", "TooLarge", "TooManyEdits", "Unfit", "UnlikeAxes"]) kt_BrickError⟩ (allT_of ⟨cf_BadBatch, cf_BadBox, cf_BadKinds, cf_BadOrder, cf_BadPaper, cf_BadSide, cf_BadText, cf_Busy, cf_NoAxis, cf_NoKind, cf_NoNumber, cf_NoSeam, cf_NotFilled, cf_NothingToUndo, cf_NoVersion, cf_Rejected, cf_TooLarge, cf_TooManyEdits, cf_Unfit, cf_UnlikeAxes, trivial⟩) (nAll_ok (ns := ["BadBatch", "BadBox", "BadKinds", "BadOrder", "BadPaper", "BadSide", "BadText", "Busy", "NoAxis", "NoKind", "NoNumber", "NoSeam", "NotFilled", "NothingToUndo", "NoVersion", "Rejected", "TooLarge", "TooManyEdits", "Unfit", "UnlikeAxes"]) fc_at) (nAll_ok (ns := ["BadBatch", "BadBox", "BadKinds", "BadOrder", "BadPaper", "BadSide", "BadText", "Busy", "NoAxis", "NoKind", "NoNumber", "NoSeam", "NotFilled", "NothingToUndo", "NoVersion", "Rejected", "TooLarge", "TooManyEdits", "Unfit", "UnlikeAxes"]) fc_axis) (nAll_ok (ns := ["BadBatch", "BadBox", "BadKinds", "BadOrder", "BadPaper", "BadSide", "BadText", "Busy", "NoAxis", "NoKind", "NoNumber", "NoSeam", "NotFilled", "NothingToUndo", "NoVersion", "Rejected", "TooLarge", "TooManyEdits", "Unfit", "UnlikeAxes"]) fc_index) (nAll_ok (ns := ["BadBatch", "BadBox", "BadKinds", "BadOrder", "BadPaper", "BadSide", "BadText", "Busy", "NoAxis", "NoKind", "NoNumber", "NoSeam", "NotFilled", "NothingToUndo", "NoVersion", "Rejected", "TooLarge", "TooManyEdits", "Unfit", "UnlikeAxes"]) fc_given) (nAll_ok (ns := ["BadBatch", "BadBox", "BadKinds", "BadOrder", "BadPaper", "BadSide", "BadText", "Busy", "NoAxis", "NoKind", "NoNumber", "NoSeam", "NotFilled", "NothingToUndo", "NoVersion", "Rejected", "TooLarge", "TooManyEdits", "Unfit", "UnlikeAxes"]) fc_reason) (nAll_ok (ns := ["BadBatch", "BadBox", "BadKinds", "BadOrder", "BadPaper", "BadSide", "BadText", "Busy", "NoAxis", "NoKind", "NoNumber", "NoSeam", "NotFilled", "NothingToUndo", "NoVersion", "Rejected", "TooLarge", "TooManyEdits", "Unfit", "UnlikeAxes"]) fc_number) (nAll_ok (ns := ["BadBatch", "BadBox", "BadKinds", "BadOrder", "BadPaper", "BadSide", "BadText", "Busy", "NoAxis", "NoKind", "NoNumber", "NoSeam", "NotFilled", "NothingToUndo", "NoVersion", "Rejected", "TooLarge", "TooManyEdits", "Unfit", "UnlikeAxes"]) fc_place) (nAll_ok (ns := ["BadBatch", "BadBox", "BadKinds", "BadOrder", "BadPaper", "BadSide", "BadText", "Busy", "NoAxis", "NoKind", "NoNumber", "NoSeam", "NotFilled", "NothingToUndo", "NoVersion", "Rejected", "TooLarge", "TooManyEdits", "Unfit", "UnlikeAxes"]) fc_error)
  exact O_law
end K01
open PySem PySem.W PyProof.Rows
set_option maxHeartbeats 0 in
theorem PySem.Challenge.cw_twobricks_k01_errors_and_bounds_holds : PySem.Challenge.rw_twobricks_k01_errors_and_bounds.Holds := by
  w_on; o_law
  refine HandSHeadRun.head_any (r := OpenLaw.row PySem.Challenge.rw_twobricks_k01_errors_and_bounds) (q := view (OpenLaw.row PySem.Challenge.rw_twobricks_k01_errors_and_bounds).prog [38]) (H := DL.hookF 1500 K01.defs K01.asks K01.tabs) (ob := fun s => DL.obsF 1500 K01.defs K01.asks K01.tabs (HandSHeadRun.getT s)) (M := 30000) (loose := K01.loose) (d := HandSHeadRun.topDef (OpenLaw.row PySem.Challenge.rw_twobricks_k01_errors_and_bounds).prog 38) (kwd := []) DL.obsF_eq
    (by kernel_rfl) (fun s => by kernel_rfl) K01.run (by kernel_rfl) (by kernel_rfl) (by kernel_rfl) (by rfl) (by first | assumption | decide +kernel) (by decide +kernel) ⟨rfl, rfl, rfl, rfl, rfl, by decide +kernel⟩ ?hw ?hc
  case hw => w_witness2
  case hc =>
    refine DL.walkF (l := PySem.Challenge.rw_twobricks_k01_errors_and_bounds) (n := 63) (k := 4) (x := "_law_script") (sp := fun K => (letI : DL.Tb := K01.tbK K; DL.liftSp K DL.spLaw)) rfl (by decide) (by kernel_rfl) ⟨rfl, by decide, by decide⟩ ?F (fun K H a ns hl hT hS => ?E)
    case F =>
      intro w mg fa h K X T G hmg0
      have e : (HandSHeadRun.topDef (OpenLaw.row PySem.Challenge.rw_twobricks_k01_errors_and_bounds).prog 38).name = ("law" : PySem.Str) := by kernel_rfl
      rw [e] at hmg0
      exact K01.all_mk X G hmg0 T
    case E =>
      letI : DL.Tb := K01.tbK K
      exact DL.law_start hS

