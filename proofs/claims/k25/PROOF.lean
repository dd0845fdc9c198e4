import PyProof.Rows.All
import Wide.All
import OpenK.AllK
import Wide.FinOn
import HandS.HeadEnd
import HandS.HeadHook4
import HandS.HeadNt
import HandS.Head2
import HandS.ForSpec
import HandS.ForMost
import HandS.IsInst
import HandS.Deep
import HandS.Wide
import HandS.TupAny
import HandS.Zip
import HandS.Style
import HandS.Words
import HandS.Lambda
import HandS.RaiseMore
import HandS.SortInts
import HandS.Walk
import KE.GoesMore
import KE.GoesEnum
import HandS.TupMul
import PyProof.ReprRoads
import PyProof.Rows.IntBool
import KE.SortData
import KE.DataMinMax
import HandS.Conv
import PyProof.StrLawsRepr
import PyProof.Rows.MatchSeqLen
import PyProof.RulesMatchSeq
import HandS.Dict
import KE.LtData
import KE.DataCmp
import PyProof.FactsAll.dict
import PyProof.NeData
import HandS.TryOnly
import PyProof.StrOps2
import HandS.Star
import PyProof.AssignAttr
import HandS.Nested
import HandS.EndTab
import KE.KExcSuper
import HandS.ExcInit
import HandS.ExcField
import HandS.ExcIs
import HandS.ExcOwn
import HandS.Small
import HandS.TryMany
import HandS.WordsExc
import HandS.ExcCtx
import KE.KIsAll
import KE.KTryMore
import PySem.Challenge.RW_twobricks_k25_pairs_within_others
set_option Elab.async false
set_option linter.all false
set_option maxRecDepth 100000
set_option maxHeartbeats 4000000
namespace DL
open PySem PySem.Spec PyProof.Rows L2
structure DefF where
  at_ : PySem.W.Frag → Addr
  name : Str
  qual : Str
  st : Stmt
  free : List Str := []
abbrev FnC : Type := Option (Str × Str × Arguments × FuncBody × Scope × Addr × List Str × Addr)
def fnO (K : PySem.W.Frag) (a : Addr) : FnC := match K.lookup a with
  | some ⟨_, _, .func fd, _⟩ => some (fd.name, fd.qualname, fd.params, fd.body, fd.scope, fd.globals, fd.closure.map Prod.fst, fd.builtins)
  | _ => none
def DefF.val (d : DefF) : FnC := some (d.name, d.qual, defArgs d.st, .stmts (defBody d.st), defScope d.st, mainGlobals, d.free, builtinsNs)
def isNo : Value → Bool
  | .none => true
  | _ => false
theorem isNo_ok {v : Value} (h : isNo v = true) : v = .none := by
  cases v <;> first | rfl | cases h
def DefF.ok (K : PySem.W.Frag) (d : DefF) : Bool := PySem.W.keepIn K (.ref (d.at_ K)) && (match K.lookup (d.at_ K) with
  | some ⟨_, _, .func fd, _⟩ => PySem.W.codeIn K fd.code d.qual && (isNo fd.defaults && (d.free.isEmpty || isNo fd.kwdefaults))
  | _ => false)
theorem DefF.get {K : PySem.W.Frag} {d : DefF} (e : fnO K (d.at_ K) = d.val) (c : d.ok K = true) :
    ∃ oc od kV dc pm an cd ct sl cl, K.lookup (d.at_ K) = some ⟨oc, od, .func (PySem.W.fnX d.name d.qual (defArgs d.st) (defBody d.st) (defScope d.st) cl .none kV dc pm an cd ct), sl⟩ ∧ cl.map Prod.fst = d.free ∧ PySem.W.codeIn K cd d.qual = true ∧ PySem.W.keepIn K (.ref (d.at_ K)) = true ∧ (d.free.isEmpty = false → kV = .none) := by
  obtain ⟨kp, c2⟩ := He.ba c
  unfold fnO at e
  cases q : K.lookup (d.at_ K) with
  | none =>
    rw [q] at c2
    cases c2
  | some o =>
    obtain ⟨oc, od, dt, osl⟩ := o
    rw [q] at c2 e
    cases dt with
    | func fd =>
      obtain ⟨n1, n2, n3, n4, n5, n6, n7, n8, n9, n10, n11, n12, n13, n14, n15⟩ := fd
      have e2 : (some (n1, n2, n3, n4, n5, n6, n7.map Prod.fst, n15) : FnC) = some (d.name, d.qual, defArgs d.st, .stmts (defBody d.st), defScope d.st, mainGlobals, d.free, builtinsNs) := e
      simp only [Option.some.injEq, Prod.mk.injEq] at e2
      obtain ⟨h1, h2, h3, h4, h5, h6, h7, h8⟩ := e2
      subst h1 h2 h3 h4 h5 h6 h8
      have c3 : (PySem.W.codeIn K n13 d.qual && (isNo n8 && (d.free.isEmpty || isNo n9))) = true := c2
      obtain ⟨k1, k2⟩ := He.ba c3
      obtain ⟨k3, k4⟩ := He.ba k2
      obtain rfl := isNo_ok k3
      refine ⟨oc, od, n9, n10, n11, n12, n13, n14, osl, n7, rfl, h7, k1, kp, fun hf => ?_⟩
      rw [hf, Bool.false_or] at k4
      exact isNo_ok k4
    | _ => cases c2
theorem DefF.fn {K : PySem.W.Frag} {d : DefF} (e : fnO K (d.at_ K) = d.val) (c : d.ok K = true) (h : d.free = []) : ∃ fd, Fun K d.name d.qual d.st (d.at_ K) fd := by
  obtain ⟨oc, od, kV, dc, pm, an, cd, ct, sl, cl, l, hc, k1, k2, _⟩ := DefF.get e c
  rw [h] at hc
  obtain rfl := List.map_eq_nil_iff.mp hc
  exact ⟨_, ⟨oc, od, kV, dc, pm, an, cd, ct, sl, rfl, l, k1⟩, k2⟩
abbrev Ask : Type := PySem.W.Frag → Bool
structure Told (fn : List DefF) (ex : List Ask) (tf : List He.Defn) (h : Heap) (K : PySem.W.Frag) : Prop where
  d : ∀ (i : Nat) (d : DefF), fn[i]? = some d → fnO K (d.at_ K) = d.val ∧ d.ok K = true
  x : ∀ (i : Nat) (f : Ask), ex[i]? = some f → f K = true
  hd : ∀ p ∈ tf, PySem.W.codeHdIn K (He.cT K p).1 (He.cT K p).2 = true
  out : ∀ p ∈ tf, K.lookup (He.cT K p).2 = none
  empty : ∀ p ∈ tf, h.get? (He.cT K p).2 = some { cls := .none, data := .fields #[] }
theorem Told.fn {fn : List DefF} {ex : List Ask} {tf : List He.Defn} {h : Heap} {K : PySem.W.Frag} (c : Told fn ex tf h K) (i : Nat) {d : DefF} (e : fn[i]? = some d) (hf : d.free = []) : ∃ fd, Fun K d.name d.qual d.st (d.at_ K) fd := DefF.fn (c.d i d e).1 (c.d i d e).2 hf
abbrev fragN (N : Nat) (g : Addr → Option Obj) : PySem.W.Frag := He.frT g (List.range N)
def obsF (N : Nat) (fn : List DefF) (ex : List Ask) (tf : List He.Defn) (g : Addr → Option Obj) : Bool × List FnC :=
  ((ex.all fun f => f (fragN N g)) && ((fn.all fun d => d.ok (fragN N g)) && He.tabsB g tf (fragN N g)), fn.map fun d => fnO (fragN N g) (d.at_ (fragN N g)))
theorem told_of {N : Nat} {fn : List DefF} {ex : List Ask} {tf : List He.Defn} {h : Heap} (e : obsF N fn ex tf h.get? = (true, fn.map DefF.val)) : Told fn ex tf h (fragN N h.get?) := by
  have e1 := congrArg (fun z : Bool × List FnC => z.1) e
  have e2 : (fn.map fun d => fnO (fragN N h.get?) (d.at_ (fragN N h.get?))) = fn.map DefF.val := congrArg (fun z : Bool × List FnC => z.2) e
  obtain ⟨h1, h2⟩ := He.ba (show ((ex.all fun f => f (fragN N h.get?)) && ((fn.all fun d => d.ok (fragN N h.get?)) && He.tabsB h.get? tf (fragN N h.get?))) = true from e1)
  obtain ⟨h2, h3⟩ := He.ba h2
  have key : ∀ p ∈ tf, PySem.W.codeHdIn (fragN N h.get?) (He.cT (fragN N h.get?) p).1 (He.cT (fragN N h.get?) p).2 = true ∧ ∃ o, h.get? (He.cT (fragN N h.get?) p).2 = some o ∧ He.emptyTab o = true := fun p hp => by
    obtain ⟨h4, h5⟩ := He.ba (List.all_eq_true.mp h3 p hp)
    refine ⟨h4, ?_⟩
    cases q : h.get? (He.cT (fragN N h.get?) p).2 with
    | none =>
      rw [q] at h5
      cases h5
    | some o =>
      rw [q] at h5
      exact ⟨o, rfl, h5⟩
  refine ⟨fun i d hi => ⟨?_, List.all_eq_true.mp h2 d (List.mem_of_getElem? hi)⟩, fun i f hi => List.all_eq_true.mp h1 f (List.mem_of_getElem? hi), fun p hp => (key p hp).1, fun p hp => ?_, fun p hp => ?_⟩
  · have e3 : (fn.map fun d => fnO (fragN N h.get?) (d.at_ (fragN N h.get?)))[i]? = (fn.map DefF.val)[i]? := by rw [e2]
    rw [List.getElem?_map, List.getElem?_map, hi] at e3
    exact Option.some.inj e3
  · obtain ⟨_, o, q, z⟩ := key p hp
    exact He.frT_none q z
  · obtain ⟨_, o, q, z⟩ := key p hp
    rw [q, He.emptyTab_eq z]
def hookF (N : Nat) (fn : List DefF) (ex : List Ask) (tf : List He.Defn) : PySem.W.Hook where
  α := Bool × List FnC
  obs := fun s => obsF N fn ex tf s.heap.get?
  val := fun _ => (true, fn.map DefF.val)
  says := fun _ h => ∃ K : PySem.W.Frag, K.In h ∧ Told fn ex tf h K
  of := fun _ _ e => ⟨_, He.frT_in, told_of e⟩
  keeps := fun _ _ _ ⟨K, hK, c⟩ k => ⟨K, PySem.W.Frag.In.keeps hK k, ⟨c.d, c.x, c.hd, c.out, fun p hp => k _ _ (c.empty p hp)⟩⟩
theorem obsF_eq {N : Nat} {fn : List DefF} {ex : List Ask} {tf : List He.Defn} (s : PySem.W.SharedT) : obsF N fn ex tf (HandSHeadRun.getT s) = (hookF N fn ex tf).obs s.abs := by
  have e : HandSHeadRun.getT s = s.abs.heap.get? := funext (HandSHeadRun.getT_eq s)
  rw [e] <;> rfl
noncomputable abbrev endS (r : PySem.W.OpenRow) (M : Nat) (w : World) (os : OsState) : Option PySem.W.SharedT := HandSHeadRun.endF (HandSHeadRun.stepQ (HandSHeadRun.denQ HandSHeadRun.tabQ) r.prog w) M r.prog w os
theorem run_parts {r : PySem.W.OpenRow} {q : Program} {N M : Nat} {fn : List DefF} {ex : List Ask} {tf : List He.Defn} {loose : List Str} {w : World}
    (a : ∀ os, (endS r M w os).map (fun s => HandSHeadRun.looksF r.prog (PySem.W.boot_heap w.params) s.abs) = some true)
    (b : ∀ os, (endS r M w os).map (fun s => HandSHeadRun.seenQ q loose (importedModules r.prog.main.body) (fun s => PySem.W.xlAt q [] s && PySem.W.recOk r.toRowW.records s) s.abs) = some (PySem.W.openGood q loose))
    (c : ∀ os, (endS r M w os).map (fun s => ex.all fun f => f (fragN N (HandSHeadRun.getT s))) = some true)
    (d : ∀ os, (endS r M w os).map (fun s => ((fn.all fun d => d.ok (fragN N (HandSHeadRun.getT s))) && He.tabsB (HandSHeadRun.getT s) tf (fragN N (HandSHeadRun.getT s)), fn.map fun d => fnO (fragN N (HandSHeadRun.getT s)) (d.at_ (fragN N (HandSHeadRun.getT s))))) = some (true, fn.map DefF.val)) :
    HandSHeadRun.RunEq r q (hookF N fn ex tf) (fun s => obsF N fn ex tf (HandSHeadRun.getT s)) M loose w := fun os => by
  have a := a os
  have b := b os
  have c := c os
  have d := d os
  show (endS r M w os).map _ = _
  cases e : endS r M w os with
  | none =>
    rw [e] at a
    cases a
  | some s =>
    rw [e] at a b c d
    have a1 := Option.some.inj a
    have b1 := Option.some.inj b
    have c1 := Option.some.inj c
    have d1 := Option.some.inj d
    have d2 := congrArg Prod.fst d1
    have d3 := congrArg Prod.snd d1
    refine congrArg some (Prod.ext a1 (Prod.ext b1 (Prod.ext ?_ d3)))
    show ((ex.all fun f => f (fragN N (HandSHeadRun.getT s))) && ((fn.all fun d => d.ok (fragN N (HandSHeadRun.getT s))) && He.tabsB (HandSHeadRun.getT s) tf (fragN N (HandSHeadRun.getT s)))) = true
    exact Bool.and_eq_true_iff.mpr ⟨c1, d2⟩
section
variable {r : PySem.W.OpenRow} {N M : Nat} {w : World}
def RunC (r : PySem.W.OpenRow) (N M : Nat) (w : World) (ex : List Ask) : Prop := ∀ os, (endS r M w os).map (fun s => ex.all fun f => f (fragN N (HandSHeadRun.getT s))) = some true
def RunD (r : PySem.W.OpenRow) (N M : Nat) (w : World) (fn : List DefF) : Prop := ∀ os, (endS r M w os).map (fun s => ((fn.all fun d => d.ok (fragN N (HandSHeadRun.getT s))), fn.map fun d => fnO (fragN N (HandSHeadRun.getT s)) (d.at_ (fragN N (HandSHeadRun.getT s))))) = some (true, fn.map DefF.val)
def RunA (r : PySem.W.OpenRow) (N M : Nat) (w : World) (tf : List He.Defn) : Prop := ∀ os, (endS r M w os).map (fun s => (HandSHeadRun.looksF r.prog (PySem.W.boot_heap w.params) s.abs, He.tabsB (HandSHeadRun.getT s) tf (fragN N (HandSHeadRun.getT s)))) = some (true, true)
theorem RunC.app {X Y : List Ask} (a : RunC r N M w X) (b : RunC r N M w Y) : RunC r N M w (X ++ Y) := fun os => by
  have a := a os
  have b := b os
  cases e : endS r M w os with
  | none =>
    rw [e] at a
    cases a
  | some s =>
    rw [e] at a b
    refine congrArg some ?_
    show ((X ++ Y).all fun f => f (fragN N (HandSHeadRun.getT s))) = true
    rw [List.all_append]
    exact Bool.and_eq_true_iff.mpr ⟨Option.some.inj a, Option.some.inj b⟩
theorem RunD.app {X Y : List DefF} (a : RunD r N M w X) (b : RunD r N M w Y) : RunD r N M w (X ++ Y) := fun os => by
  have a := a os
  have b := b os
  cases e : endS r M w os with
  | none =>
    rw [e] at a
    cases a
  | some s =>
    rw [e] at a b
    have a1 := Option.some.inj a
    have b1 := Option.some.inj b
    refine congrArg some (Prod.ext ?_ ?_)
    · show (X ++ Y).all _ = true
      rw [List.all_append]
      exact Bool.and_eq_true_iff.mpr ⟨congrArg Prod.fst a1, congrArg Prod.fst b1⟩
    · show (X ++ Y).map _ = (X ++ Y).map _
      rw [List.map_append, List.map_append]
      exact congr (congrArg _ (congrArg Prod.snd a1)) (congrArg Prod.snd b1)
theorem run_all {q : Program} {fn : List DefF} {ex : List Ask} {tf : List He.Defn} {loose : List Str} (a : RunA r N M w tf)
    (b : ∀ os, (endS r M w os).map (fun s => HandSHeadRun.seenQ q loose (importedModules r.prog.main.body) (fun s => PySem.W.xlAt q [] s && PySem.W.recOk r.toRowW.records s) s.abs) = some (PySem.W.openGood q loose))
    (c : RunC r N M w ex) (d : RunD r N M w fn) : HandSHeadRun.RunEq r q (hookF N fn ex tf) (fun s => obsF N fn ex tf (HandSHeadRun.getT s)) M loose w := by
  refine run_parts (fun os => ?_) b c fun os => ?_
  · have a := a os
    cases e : endS r M w os with
    | none =>
      rw [e] at a
      cases a
    | some s =>
      rw [e] at a
      exact congrArg some (congrArg Prod.fst (Option.some.inj a))
  · have a := a os
    have d := d os
    cases e : endS r M w os with
    | none =>
      rw [e] at a
      cases a
    | some s =>
      rw [e] at a d
      have d1 := Option.some.inj d
      have d2 : (fn.map fun d => fnO (fragN N (HandSHeadRun.getT s)) (d.at_ (fragN N (HandSHeadRun.getT s)))) = fn.map DefF.val := congrArg Prod.snd d1
      refine congrArg some (Prod.ext (Bool.and_eq_true_iff.mpr ⟨congrArg Prod.fst d1, congrArg Prod.snd (Option.some.inj a)⟩) ?_)
      exact d2
end
def aG (x : Str) : Ask := fun K => He.eqO (PySem.W.nsIn K mainGlobals x) (some (some (.ref (He.ga K x))))
def aZ (x : Str) : Ask := fun K => He.eqO (PySem.W.nsIn K mainGlobals x) (some none)
def aS (x z : Str) : Ask := fun K => (He.Fa.str x z).ok K
def aExm (C c : Str) (b : Bool) : Ask := fun K => decide (PySem.W.exmOne K (.ref (He.ga K C)) (.ref (He.ga K c)) = some b)
def aKit (C : Str) (T : PySem.W.Frag → Value) (b : Bool) : Ask := fun K => decide (PySem.W.kitOne K (.ref (He.ga K C)) (T K) = some b)
def exLB (K : PySem.W.Frag) (C : Addr) (n : Str) : Bool := match K.lookup C with
  | some ⟨.type "type", _, .cls cd, sl⟩ => (match cd.mro, sl.toList with
    | .ref C' :: bm, [_, _, _, _, some (.builtin nid), _] => C' == C && (nid == "ValueError.__new__" && (!cd.hasDel && (cd.hasDict && (PySem.HandSPX.refsVE bm && decide (cd.name = n)))))
    | _, _ => false)
  | _ => false
def aCF (n : Str) : Ask := fun K => exLB K (He.ga K n) n &&
  (He.eqO (PySem.W.findIn K (.ref (He.ga K n)) "__setattr__") (some (some (.builtin "object.__setattr__"))) && (decide (PySem.W.subIn K (.ref (He.ga K n)) (.type "BaseException") = some true) && (decide (PySem.W.typeIn K (.ref (He.ga K n)) = some (.type "type")) && (PySem.W.keepIn K (.ref (He.ga K n)) &&
  (He.eqO (PySem.W.findIn K (.ref (He.ga K n)) "__getattribute__") (some (some (.builtin "BaseException.__getattribute__"))) && (He.eqO (PySem.W.findIn K (.ref (He.ga K n)) "__getattr__") (some none) && (PySem.W.hasDictIn K (He.ga K n) &&
  (He.eqO (PySem.W.findIn K (.ref (He.ga K n)) "__class__") (some (some (.builtin "object.__class__"))) && (He.eqO (PySem.W.specialIn K (.builtin "object.__class__") "__get__") (some (some (.builtin "getset_descriptor.__get__"))) && (decide (PySem.W.takesIn K (.builtin "object.__class__") = some true) &&
  decide (PySem.W.mroIn K (He.ga K n) (.type "object") = some true)))))))))))
def aX0 (n : Str) : Ask := fun K => PySem.W.excIn K (He.ga K n) [.type "ValueError", .type "Exception", .type "BaseException", .type "object"] "ValueError.__new__"
end DL
set_option Elab.async false
set_option linter.all false
set_option maxRecDepth 100000
set_option maxHeartbeats 4000000
namespace K25
open PySem PySem.Spec PyProof.Rows L2 DL
def topS (i : Nat) : Stmt := PySem.Challenge.pw_twobricks_k25_pairs_within_others.main.body.getD i (.Pass ⟨0, 0, 0, 0⟩)
abbrev s_common : Stmt := topS 4
abbrev s_inverse : Stmt := topS 5
abbrev s_least_times : Stmt := topS 6
abbrev s_rests : Stmt := topS 12
abbrev s_bar_along : Stmt := topS 13
abbrev s_crossing : Stmt := topS 14
abbrev s_paper : Stmt := topS 15
abbrev s_is_filled : Stmt := topS 16
abbrev s_escape : Stmt := topS 18
abbrev s_within : Stmt := topS 19
abbrev s_alike : Stmt := topS 20
abbrev s_Ldeck : Stmt := topS 22
abbrev s_Ldraw : Stmt := topS 23
abbrev s_Lone : Stmt := topS 24
abbrev s_Lsides : Stmt := topS 26
abbrev s_Lpair : Stmt := topS 27
abbrev s_Lis_sum : Stmt := topS 31
abbrev s_Lrests : Stmt := topS 32
abbrev s_Lis_filled : Stmt := topS 33
abbrev s_Ldivisor : Stmt := topS 25
abbrev s_Llcm : Stmt := topS 28
abbrev s_Lcut_box : Stmt := topS 29
abbrev s_Lplain_box : Stmt := topS 30
abbrev s_Lwith : Stmt := topS 34
abbrev s_Lnear : Stmt := topS 35
abbrev s_Lis_refused : Stmt := topS 36
abbrev s_law : Stmt := topS 37
def loose0 : List Str := ["__name__", "BrickError", "UnlikeAxes", "common", "inverse", "least_times", "CUT", "SIDES", "STEP", "GAP", "rests", "bar_along", "crossing", "paper", "is_filled", "escape", "within", "alike", "_law_deck", "_law_draw", "_law_one", "_law_divisor", "_law_sides", "_law_pair", "_law_lcm", "_law_cut_box", "_law_plain_box", "_law_is_sum", "_law_rests", "_law_is_filled"]
def loose1 : List Str := ["_law_with", "_law_near", "_law_is_refused"]
def loose : List Str := loose0 ++ (loose1)
def tabs : List He.Defn := [("law", none)]
def defs0_0 : List DefF := [
  ⟨fun K => He.ga K "common", "common", "common", s_common, []⟩,
  ⟨fun K => He.ga K "inverse", "inverse", "inverse", s_inverse, []⟩,
  ⟨fun K => He.ga K "least_times", "least_times", "least_times", s_least_times, []⟩,
  ⟨fun K => He.ga K "rests", "rests", "rests", s_rests, []⟩,
  ⟨fun K => He.ga K "bar_along", "bar_along", "bar_along", s_bar_along, []⟩,
  ⟨fun K => He.ga K "crossing", "crossing", "crossing", s_crossing, []⟩,
  ⟨fun K => He.ga K "paper", "paper", "paper", s_paper, []⟩,
  ⟨fun K => He.ga K "is_filled", "is_filled", "is_filled", s_is_filled, []⟩,
  ⟨fun K => He.ga K "escape", "escape", "escape", s_escape, []⟩,
  ⟨fun K => He.ga K "within", "within", "within", s_within, []⟩,
  ⟨fun K => He.ga K "alike", "alike", "alike", s_alike, []⟩,
  ⟨fun K => He.ga K "_law_deck", "_law_deck", "_law_deck", s_Ldeck, []⟩,
  ⟨fun K => He.ga K "_law_draw", "_law_draw", "_law_draw", s_Ldraw, []⟩,
  ⟨fun K => He.ga K "_law_one", "_law_one", "_law_one", s_Lone, []⟩,
  ⟨fun K => He.ga K "_law_sides", "_law_sides", "_law_sides", s_Lsides, []⟩,
  ⟨fun K => He.ga K "_law_pair", "_law_pair", "_law_pair", s_Lpair, []⟩,
  ⟨fun K => He.ga K "_law_is_sum", "_law_is_sum", "_law_is_sum", s_Lis_sum, []⟩,
  ⟨fun K => He.ga K "_law_rests", "_law_rests", "_law_rests", s_Lrests, []⟩,
  ⟨fun K => He.ga K "_law_is_filled", "_law_is_filled", "_law_is_filled", s_Lis_filled, []⟩,
  ⟨fun K => He.ga K "_law_divisor", "_law_divisor", "_law_divisor", s_Ldivisor, []⟩,
  ⟨fun K => He.ga K "_law_lcm", "_law_lcm", "_law_lcm", s_Llcm, []⟩,
  ⟨fun K => He.ga K "_law_cut_box", "_law_cut_box", "_law_cut_box", s_Lcut_box, []⟩,
  ⟨fun K => He.ga K "_law_plain_box", "_law_plain_box", "_law_plain_box", s_Lplain_box, []⟩,
  ⟨fun K => He.ga K "_law_with", "_law_with", "_law_with", s_Lwith, []⟩,
  ⟨fun K => He.ga K "_law_near", "_law_near", "_law_near", s_Lnear, []⟩,
  ⟨fun K => He.ga K "_law_is_refused", "_law_is_refused", "_law_is_refused", s_Lis_refused, []⟩,
  ⟨fun K => He.ga K "law", "law", "law", s_law, []⟩]
def defs0 : List DefF := defs0_0
def defs : List DefF := defs0
def asks0_0 : List Ask := [
  aG "law",
  aG "common",
  aG "inverse",
  aG "least_times",
  aG "rests",
  aG "bar_along",
  aG "crossing",
  aG "paper",
  aG "is_filled",
  aG "escape",
  aG "within",
  aG "alike",
  aG "_law_deck",
  aG "_law_draw",
  aG "_law_one",
  aG "_law_sides",
  aG "_law_pair",
  aG "_law_is_sum",
  aG "_law_rests",
  aG "_law_is_filled",
  aG "_law_divisor",
  aG "_law_lcm",
  aG "_law_cut_box",
  aG "_law_plain_box",
  aG "_law_with",
  aG "_law_near",
  aG "_law_is_refused",
  aZ "enumerate",
  aZ "len",
  aZ "abs",
  aZ "int",
  aZ "range",
  aZ "tuple",
  aZ "list",
  aZ "isinstance",
  aZ "repr",
  aS "GAP" "gap",
  aS "STEP" "step",
  aS "SIDES" "sides",
  aS "CUT" "cut"]
def asks0_1 : List Ask := [
  aG "UnlikeAxes",
  aCF "UnlikeAxes",
  aX0 "UnlikeAxes",
  aG "BrickError",
  aExm "UnlikeAxes" "UnlikeAxes" true,
  aKit "UnlikeAxes" (fun K => .ref (He.ga K "BrickError")) true,
  (fun K => ([((He.cT K ("law", none)).2, (envOfC "law" (defScope s_law) 0 0 .none).qual ++ "<lambda>") ] : List (Addr × Str)).all fun p => !(p.1 == (He.cT K ("law", none)).2) || p.2 == ((envOfC "law" (defScope s_law) 0 0 .none).qual ++ "<lambda>"))]
def asks0 : List Ask := asks0_0 ++ (asks0_1)
def asks : List Ask := asks0
set_option maxHeartbeats 0 in
theorem run_a (w : World) : RunA (W.OpenLaw.row PySem.Challenge.rw_twobricks_k25_pairs_within_others) 1500 30000 w tabs := by
  intro os
  kernel_rfl
set_option maxHeartbeats 0 in
theorem run_b (w : World) (os : OsState) : (endS (W.OpenLaw.row PySem.Challenge.rw_twobricks_k25_pairs_within_others) 30000 w os).map (fun s => HandSHeadRun.seenQ (W.view (W.OpenLaw.row PySem.Challenge.rw_twobricks_k25_pairs_within_others).prog [37]) loose (importedModules (W.OpenLaw.row PySem.Challenge.rw_twobricks_k25_pairs_within_others).prog.main.body) (fun s => W.xlAt (W.view (W.OpenLaw.row PySem.Challenge.rw_twobricks_k25_pairs_within_others).prog [37]) [] s && W.recOk (W.OpenLaw.row PySem.Challenge.rw_twobricks_k25_pairs_within_others).toRowW.records s) s.abs) = some (W.openGood (W.view (W.OpenLaw.row PySem.Challenge.rw_twobricks_k25_pairs_within_others).prog [37]) loose) := by
  kernel_rfl
set_option maxHeartbeats 0 in
theorem run_c0 (w : World) : RunC (W.OpenLaw.row PySem.Challenge.rw_twobricks_k25_pairs_within_others) 1500 30000 w asks0 := by
  intro os
  kernel_rfl
set_option maxHeartbeats 0 in
theorem run_d0 (w : World) : RunD (W.OpenLaw.row PySem.Challenge.rw_twobricks_k25_pairs_within_others) 1500 30000 w defs0 := by
  intro os
  kernel_rfl
theorem run (w : World) : HandSHeadRun.RunEq (W.OpenLaw.row PySem.Challenge.rw_twobricks_k25_pairs_within_others) (W.view (W.OpenLaw.row PySem.Challenge.rw_twobricks_k25_pairs_within_others).prog [37]) (DL.hookF 1500 defs asks tabs) (fun s => DL.obsF 1500 defs asks tabs (HandSHeadRun.getT s)) 30000 loose w := run_all (run_a w) (run_b w) (run_c0 w) (run_d0 w)
end K25
set_option Elab.async false
set_option linter.all false
set_option maxRecDepth 100000
set_option maxHeartbeats 4000000
namespace DL
open PySem PySem.Spec PyProof.Rows L2

class Tb where
  T : List (Addr × Str)
instance (priority := low) tb0 : Tb := ⟨[]⟩
def markI : Int := 2 ^ 2000
abbrev objD (n : Str) (fs : List (Str × PyData)) : PyData := .dict ((.int markI, .str n) :: fs.map fun p => (.str p.1, p.2))
structure ObjK (K : PySem.W.Frag) (n : Str) (C : Addr) : Prop where
  at_ : PySem.W.nsIn K mainGlobals n = some (some (.ref C))
  ty : ∀ T ∈ ["int", "bool", "str", "tuple", "list", "dict"], PySem.W.kitOne K (.ref C) (.type T) = some false
  cl : Cls K C
  ha : PySem.W.findIn K (.ref C) "__class__" = some (some (.builtin "object.__class__"))
  hn : PySem.W.specialIn K (.builtin "object.__class__") "__get__" = some (some (.builtin "getset_descriptor.__get__"))
  tk : PySem.W.takesIn K (.builtin "object.__class__") = some true
  mr : PySem.W.mroIn K C (.type "object") = some true
def keyI (k : List Int) : List Key := k.map fun i => (Sum.inl i : Key)
def numsV (xs : List V) : Bool := !xs.isEmpty && xs.all fun v => match v with | .int _ => true | _ => false
def tupH (o : Obj) (xs : List V) : HO := if numsV xs = true then .tup xs else .frz o (.tup xs)
def TupAt (G : Hp) (a : Addr) (xs : List V) : Prop := ∃ o : Obj, o.dict = none ∧ G a = some (tupH o xs)
theorem TupAt.mono {G H : Hp} {a : Addr} {xs : List V} (s : Same G H) (h : TupAt G a xs) : TupAt H a xs := by
  obtain ⟨o, d, e⟩ := h
  exact ⟨o, d, s _ _ e⟩
theorem TupAt.sq {K : PySem.W.Frag} {G : Hp} {a : Addr} {xs : List V} (h : TupAt G a xs) : SqT K G a xs := by
  obtain ⟨o, _, e⟩ := h
  unfold tupH at e
  split at e
  · exact SqT.of e
  · exact .inl (.inr ⟨o, e⟩)
theorem TupAt.key {G : Hp} {a : Addr} {xs : List V} (h : TupAt G a xs) (n : numsV xs = true) : G a = some (.tup xs) := by
  obtain ⟨o, _, e⟩ := h
  rwa [tupH, if_pos n] at e
theorem TupAt.obj {G : Hp} {a : Addr} {xs : List V} (h : TupAt G a xs) (n : numsV xs = false) : ∃ o : Obj, o.dict = none ∧ G a = some (.frz o (.tup xs)) := by
  obtain ⟨o, d, e⟩ := h
  rw [tupH, if_neg (by rw [n]; exact Bool.false_ne_true)] at e
  exact ⟨o, d, e⟩
theorem TupAt.two {G : Hp} {a : Addr} {xs : List V} (h : TupAt G a xs) : G a = some (.tup xs) ∨ ∃ o : Obj, o.dict = none ∧ G a = some (.frz o (.tup xs)) := by
  cases n : numsV xs with
  | true => exact .inl (h.key n)
  | false => exact .inr (h.obj n)
theorem tupH_tbl {o : Obj} {xs : List V} : ∀ ps, tupH o xs ≠ .tbl ps := fun ps => by
  unfold tupH
  split <;> exact fun z => (nomatch z)
theorem tupH_ok {P : Program} {w : World} {H : Hp} {h : Heap} {a : Addr} {o : Obj} {n : Nat} {xs : List V} {us : List Value} (e : h.get? a = some o) (c : o.cls = .type "tuple") (d : o.data = .seq us.toArray n) (z : xs.length ≤ sizeLine) (r : Vals xs us) : ObjOk P w H h a (tupH o xs) := by
  unfold tupH
  split
  · exact ⟨z, us, r, o, e, c, n, d⟩
  · exact ⟨e, z, us, r, o, e, c, n, d⟩
abbrev tupO (us : List Value) : Obj := { cls := .type "tuple", data := .seq us.toArray }
mutual
inductive Dn (K : PySem.W.Frag) (G : Hp) : V → PyData → Prop
  | non : Dn K G .non .none
  | bl (b : Bool) : Dn K G (.bl b) (.bool b)
  | int (i : Int) : Dn K G (.int i) (.int i)
  | str (x : Str) : Dn K G (.str x) (.str x)
  | lst {a : Addr} {xs : List V} {ds : List PyData} (h : G a = some (.lst xs)) (t : DnL K G xs ds) : Dn K G (.ref a) (.list ds)
  | tup {a : Addr} {xs : List V} {ds : List PyData} (h : TupAt G a xs) (t : DnL K G xs ds) : Dn K G (.ref a) (.tuple ds)
  | dic {a : Addr} (h : G a = some (.dK [])) (n : a ≠ sysModules) : Dn K G (.ref a) (.dict [])
  | ob {a C dx : Addr} {n : Str} {ws : List (Str × V)} {fs : List (Str × PyData)} (h : G a = some (.ins C dx ws)) (k : ObjK K n C) (e : ws.map (·.1) = fs.map (·.1)) (t : DnL K G (ws.map (·.2)) (fs.map (·.2))) : Dn K G (.ref a) (.dict ((.int markI, .str n) :: fs.map fun p => (.str p.1, p.2)))
  | fK {a : Addr} {o : Obj} {ws : List (Key × V)} {kvs : List (Int × PyData)} (h : G a = some (.frz o (.dK ws))) (e : ws.map (·.1) = kvs.map fun p => (Sum.inl p.1 : Key)) (t : DnL K G (ws.map (·.2)) (kvs.map (·.2))) : Dn K G (.ref a) (.dict ((.int markI, .bool false) :: kvs.map fun p => (.int p.1, p.2)))
  | fT {a : Addr} {o : Obj} {ws : List (List Key × V)} {kvs : List (List Int × PyData)} (h : G a = some (.frz o (.dT ws))) (e : ws.map (·.1) = kvs.map fun p => keyI p.1) (t : DnL K G (ws.map (·.2)) (kvs.map (·.2))) : Dn K G (.ref a) (.dict ((.int markI, .bool true) :: kvs.map fun p => (.tuple (p.1.map PyData.int), p.2)))
inductive DnL (K : PySem.W.Frag) (G : Hp) : List V → List PyData → Prop
  | nil : DnL K G [] []
  | cons {v : V} {vs : List V} {d : PyData} {ds : List PyData} (h : Dn K G v d) (t : DnL K G vs ds) : DnL K G (v :: vs) (d :: ds)
end
theorem sqT_mono {K : PySem.W.Frag} {G H : Hp} {a : Addr} {xs : List V} (s : Same G H) (h : SqT K G a xs) : SqT K H a xs := by
  rcases h with (h | ⟨o, h⟩) | h
  · exact .inl (.inl (s _ _ h))
  · exact .inl (.inr ⟨o, s _ _ h⟩)
  · exact .inr h
mutual
theorem Dn.mono' {K : PySem.W.Frag} {G H : Hp} (s : Same G H) : ∀ {v : V} {d : PyData}, Dn K G v d → Dn K H v d
  | _, _, .non => .non
  | _, _, .bl b => .bl b
  | _, _, .int i => .int i
  | _, _, .str x => .str x
  | _, _, .lst h t => .lst (s _ _ h) (DnL.mono' s t)
  | _, _, .tup h t => .tup (h.mono s) (DnL.mono' s t)
  | _, _, .dic h n => .dic (s _ _ h) n
  | _, _, .ob h k e t => .ob (s _ _ h) k e (DnL.mono' s t)
  | _, _, .fK h e t => .fK (s _ _ h) e (DnL.mono' s t)
  | _, _, .fT h e t => .fT (s _ _ h) e (DnL.mono' s t)
theorem DnL.mono' {K : PySem.W.Frag} {G H : Hp} (s : Same G H) : ∀ {vs : List V} {ds : List PyData}, DnL K G vs ds → DnL K H vs ds
  | _, _, .nil => .nil
  | _, _, .cons a b => .cons (Dn.mono' s a) (DnL.mono' s b)
end
theorem Dn.mono {K : PySem.W.Frag} {G H : Hp} (s : Same G H) {v : V} (d : PyData) (h : Dn K G v d) : Dn K H v d := Dn.mono' s h
theorem DnL.mono {K : PySem.W.Frag} {G H : Hp} (s : Same G H) {vs : List V} (ds : List PyData) (h : DnL K G vs ds) : DnL K H vs ds := DnL.mono' s h
section
variable {K : PySem.W.Frag} {G : Hp}
theorem DnL.len : ∀ {vs : List V} {ds : List PyData}, DnL K G vs ds → vs.length = ds.length
  | _, [], h => by cases h; rfl
  | _, d :: ds, h => by cases h with | cons a b => simp [DnL.len b]
theorem DnL.get : ∀ {vs : List V} {ds : List PyData} {i : Nat} {d : PyData}, DnL K G vs ds → ds[i]? = some d → ∃ v, vs[i]? = some v ∧ Dn K G v d
  | _, [], _, _, h, e => by simp at e
  | _, d :: ds, 0, _, h, e => by
    cases h with
    | cons a b => simp at e; subst e; exact ⟨_, rfl, a⟩
  | _, d :: ds, i + 1, x, h, e => by
    cases h with
    | cons a b =>
      obtain ⟨v, h1, h2⟩ := DnL.get (i := i) b (by simpa using e)
      exact ⟨v, by simpa using h1, h2⟩
theorem DnL.app : ∀ {vs ws : List V} {ds es : List PyData}, DnL K G vs ds → DnL K G ws es → DnL K G (vs ++ ws) (ds ++ es)
  | _, _, [], _, h, h2 => by cases h; exact h2
  | _, _, d :: ds, _, h, h2 => by cases h with | cons a b => exact .cons a (DnL.app b h2)
theorem DnL.take : ∀ {vs : List V} {ds : List PyData} (n : Nat), DnL K G vs ds → DnL K G (vs.take n) (ds.take n)
  | _, _, 0, _ => by simp; exact .nil
  | _, [], n + 1, h => by cases h; simp; exact .nil
  | _, d :: ds, n + 1, h => by cases h with | cons a b => exact .cons a (DnL.take n b)
theorem DnL.drop : ∀ {vs : List V} {ds : List PyData} (n : Nat), DnL K G vs ds → DnL K G (vs.drop n) (ds.drop n)
  | _, _, 0, h => by simpa using h
  | _, [], n + 1, h => by cases h; simp; exact .nil
  | _, d :: ds, n + 1, h => by cases h with | cons a b => exact DnL.drop n b
theorem DnL.rev : ∀ {vs : List V} {ds : List PyData}, DnL K G vs ds → DnL K G vs.reverse ds.reverse
  | _, [], h => by cases h; exact .nil
  | _, d :: ds, h => by
    cases h with
    | cons a b =>
      rw [List.reverse_cons, List.reverse_cons]
      exact DnL.app (DnL.rev b) (.cons a .nil)
theorem DnL.set {v : V} {d : PyData} (h : Dn K G v d) : ∀ {vs : List V} {ds : List PyData} (i : Nat), DnL K G vs ds → DnL K G (vs.set i v) (ds.set i d)
  | _, [], _, t => by cases t; exact .nil
  | _, _ :: _, 0, t => by cases t with | cons a b => exact .cons h b
  | _, _ :: _, i + 1, t => by cases t with | cons a b => exact .cons a (DnL.set h i b)
theorem DnL.dropLast {vs : List V} {ds : List PyData} (h : DnL K G vs ds) : DnL K G vs.dropLast ds.dropLast := by
  rw [List.dropLast_eq_take, List.dropLast_eq_take, h.len]
  exact h.take _
theorem DnL.ints : ∀ (ns : List Int), DnL K G (ns.map V.int) (ns.map PyData.int)
  | [] => .nil
  | n :: ns => .cons (.int n) (DnL.ints ns)
theorem DnL.toInts : ∀ {vs : List V} {ns : List Int}, DnL K G vs (ns.map PyData.int) → vs = ns.map V.int
  | _, [], h => by cases h; rfl
  | _, n :: ns, h => by
    cases h with
    | cons a b => cases a; rw [DnL.toInts b]; rfl
end

inductive GX where
  | oi (a : Addr) (kvs : List (Int × PyData))
  | og (a : Addr) (gs : List (Int × Addr × List PyData))
  | bu (a l : Addr) (n f : Str) (xs : List PyData)
  | b0 (a : Addr) (n : Str)
  | nm (a : Addr) (x : Str)
def GX.fp : GX → List Addr
  | .oi a _ => [a]
  | .og a gs => a :: gs.map (·.2.1)
  | .bu a l _ _ _ => [a, l]
  | .b0 a _ => [a]
  | .nm _ _ => []
def GX.hd : GX → Addr
  | .oi a _ => a
  | .og a _ => a
  | .bu a _ _ _ _ => a
  | .b0 a _ => a
  | .nm a _ => a
def GX.Ok (K : PySem.W.Frag) (G H : Hp) : GX → Prop
  | .oi a kvs => ∃ ws, H a = some (.dK ws) ∧ ws.map (·.1) = kvs.map (fun p => (Sum.inl p.1 : Key)) ∧ DnL K G (ws.map (·.2)) (kvs.map (·.2))
  | .og a gs => (a :: gs.map (·.2.1)).Nodup ∧ H a = some (.dK (gs.map fun g => ((Sum.inl g.1 : Key), V.ref g.2.1))) ∧ ∀ g ∈ gs, ∃ vs, H g.2.1 = some (.lst vs) ∧ DnL K G vs g.2.2
  | .bu a l n f xs => a ≠ l ∧ ∃ C dx vs, H a = some (.ins C dx [(f, .ref l)]) ∧ ObjK K n C ∧ H l = some (.lst vs) ∧ DnL K G vs xs
  | .b0 a n => ∃ C dx, H a = some (.ins C dx []) ∧ ObjK K n C
  | .nm a x => x = "" ∨ PySem.W.nsIn K mainGlobals x = some (some (.ref a))
inductive Cell where
  | em
  | d (x : PyData)
  | ol (a : Addr) (xs : List PyData)
  | dk (a b c : Addr)
  | scr (a : Addr) (ns : List Int)
  | dx (a b c : Addr) (xs : List Int) (n : Int) (ys : List Int)
  | od (a : Addr) (kvs : List (List Int × PyData))
  | xc (a : Addr) (cls : Value) (d : Option Addr) (x : PyData)
  | ob (a : Addr) (n : Str) (fs : List (Str × PyData))
  | fv (a : Addr) (m : Hp)
  | gx (t : GX)
def Cell.fp : Cell → List Addr
  | .ol a _ => [a]
  | .dk a b c => [a, b, c]
  | .dx a b c _ _ _ => [a, b, c]
  | .od a _ => [a]
  | .ob a _ _ => [a]
  | .gx t => t.fp
  | _ => []
def DnK (K : PySem.W.Frag) (G : Hp) (ws : List (List Key × V)) (kvs : List (List Int × PyData)) : Prop := ws.map (·.1) = kvs.map (fun p => keyI p.1) ∧ DnL K G (ws.map (·.2)) (kvs.map (·.2))
def DeckOk (H : Hp) (a b c : Addr) : Prop := a ≠ b ∧ a ≠ c ∧ b ≠ c ∧ ∃ (n : Int) (xs ys : List Int), H a = some (.lst [.ref b, .ref c, .int n]) ∧ H b = some (.lst (xs.map V.int)) ∧ H c = some (.lst (ys.map V.int)) ∧ ys ≠ [] ∧ ∀ x ∈ xs, 0 ≤ x
def excD (n : Str) (fs : List (Str × PyData)) : PyData := .dict [(.str n, .dict (fs.map fun p => (.str p.1, p.2)))]
def ExcAt (K : PySem.W.Frag) (G : Hp) (cls : Value) (d : Option Addr) (x : PyData) : Prop := ∃ (n : Str) (C : Addr) (fs : List (Str × PyData)), x = excD n fs ∧ cls = .ref C ∧ (PySem.W.clsIn K C).map (·.name) = some n ∧
  ((∃ (dd : Addr) (ws : List (Str × V)), d = some dd ∧ G dd = some (.xd ws) ∧ ws.map (·.1) = fs.map (·.1) ∧ DnL K G (ws.map (·.2)) (fs.map (·.2))) ∨ (fs = [] ∧ d = none))
theorem ExcAt.mono {K : PySem.W.Frag} {G G' : Hp} {cls : Value} {d : Option Addr} {x : PyData} (s : Same G G') (h : ExcAt K G cls d x) : ExcAt K G' cls d x := by
  obtain ⟨n, C, fs, h1, h2, h3, h4⟩ := h
  refine ⟨n, C, fs, h1, h2, h3, ?_⟩
  rcases h4 with ⟨dd, ws, q1, q2, q3, q4⟩ | q
  · exact .inl ⟨dd, ws, q1, s _ _ q2, q3, q4.mono s⟩
  · exact .inr q
def CellOk (K : PySem.W.Frag) (G H : Hp) : Cell → Option V → Prop
  | .em, _ => True
  | .d x, o => ∃ v, o = some v ∧ Dn K G v x
  | .ol a xs, o => o = some (.ref a) ∧ ∃ vs, H a = some (.lst vs) ∧ DnL K G vs xs
  | .dk a b c, o => o = some (.ref a) ∧ DeckOk H a b c
  | .scr a ns, o => o = some (.ref a) ∧ SqL K G a (ns.map V.int)
  | .od a kvs, o => o = some (.ref a) ∧ ∃ ws, H a = some (.dT ws) ∧ DnK K G ws kvs
  | .xc a cls d x, o => o = some (.ref a) ∧ ExcAt K G cls d x
  | .ob a n fs, o => o = some (.ref a) ∧ ∃ C dx ws, H a = some (.ins C dx ws) ∧ ObjK K n C ∧ ws.map (·.1) = fs.map (·.1) ∧ DnL K G (ws.map (·.2)) (fs.map (·.2))
  | .fv a m, o => o = some (.ref a) ∧ Same m G
  | .gx t, o => o = some (.ref t.hd) ∧ t.Ok K G H
  | .dx a b c xs n ys, o => o = some (.ref a) ∧ a ≠ b ∧ a ≠ c ∧ b ≠ c ∧ H a = some (.lst [.ref b, .ref c, .int n]) ∧ H b = some (.lst (xs.map V.int)) ∧ H c = some (.lst (ys.map V.int))

abbrev DS := List Cell
def notTE (x : HO) : Prop := (∀ ps, x ≠ .tbl ps) ∧ (∀ f, x ≠ .ext f) ∧ ∀ xs, x ≠ .tup xs
theorem notTE_lst {xs : List V} : notTE (.lst xs) := ⟨fun _ z => (nomatch z), fun _ z => (nomatch z), fun _ z => (nomatch z)⟩
theorem tabs_upd {T : List (Addr × Str)} {H : Hp} {p : Addr} {o : HO} (h : LamX.Tabs T H) (hp : ∀ x, H p = some x → notTE x) : LamX.Tabs T (upd H p o) := fun q hq => by
  obtain ⟨ps, h1, h2, h3⟩ := h q hq
  refine ⟨ps, ?_, h2, fun pos cv hc => ?_⟩
  · rw [upd_ne (fun z => (hp _ (by rw [← z]; exact h1)).1 ps rfl)]; exact h1
  · obtain ⟨c, e1, e2⟩ := h3 pos cv hc
    exact ⟨c, e1, by rw [upd_ne (fun z => (hp _ (by rw [← z]; exact e2)).2.1 _ rfl)]; exact e2⟩
theorem tabs_new {T : List (Addr × Str)} {H : Hp} {p : Addr} {o : HO} (h : LamX.Tabs T H) (hp : H p = none) : LamX.Tabs T (upd H p o) := tabs_upd h fun x e => by rw [hp] at e; cases e
structure NT (B G : Hp) : Prop where
  b : ∀ a o, B a = some o → notTE o
  g : ∀ a o, G a = some o → ∀ ps, o ≠ .tbl ps
variable [Tb]
structure TbOk (B G H : Hp) : Prop where
  t : LamX.Tabs Tb.T H
  n : NT B G
structure Rel (K : PySem.W.Frag) (B G : Hp) (δ : DS) (σ : L2.St) (H : Hp) : Prop where
  len : σ.length = δ.length
  sg : Same G H
  sb : Same B H
  dj : ∀ a, G a = none ∨ B a = none
  ok : ∀ (i : Nat) (c : Cell) (o : Option V), δ[i]? = some c → σ[i]? = some o → CellOk K G H c o
  ap : ∀ (i j : Nat) (c c' : Cell) (a : Addr), δ[i]? = some c → δ[j]? = some c' → a ∈ c.fp → a ∈ c'.fp → i = j
  fr : ∀ (i : Nat) (c : Cell) (a : Addr), δ[i]? = some c → a ∈ c.fp → G a = none ∧ B a = none
  tt : TbOk B G H

omit [Tb] in
theorem NT.updG {B G : Hp} {p : Addr} {o : HO} (n : NT B G) (h : ∀ ps, o ≠ .tbl ps) : NT B (upd G p o) := ⟨n.b, fun a x e => by
  by_cases q : a = p
  · subst q; rw [upd_same] at e; cases e; exact h
  · rw [upd_ne q] at e; exact n.g a x e⟩
omit [Tb] in
theorem NT.updB {B G : Hp} {p : Addr} {o : HO} (n : NT B G) (h : notTE o) : NT (upd B p o) G := ⟨fun a x e => by
  by_cases q : a = p
  · subst q; rw [upd_same] at e; cases e; exact h
  · rw [upd_ne q] at e; exact n.b a x e, n.g⟩
omit [Tb] in
theorem NT.lessB {B B0 G : Hp} (n : NT B G) (h : ∀ a o, B0 a = some o → B a = some o) : NT B0 G := ⟨fun a x e => n.b a x (h a x e), n.g⟩
section
variable {K : PySem.W.Frag} {B G G' H H' : Hp} {δ : DS} {σ : L2.St} {p a : Addr} {o : HO} {i : Nat} {c : Cell}
theorem same_new (h : H p = none) : Same H (upd H p o) := fun b x e => by
  rw [upd_ne (ne_of_none e h)]; exact e
theorem Rel.at (R : Rel K B G δ σ H) (h : δ[i]? = some c) : ∃ o, σ[i]? = some o ∧ CellOk K G H c o := by
  have hi : i < δ.length := (List.getElem?_eq_some_iff.mp h).1
  have hs : i < σ.length := by rw [R.len]; exact hi
  exact ⟨σ[i], List.getElem?_eq_getElem hs, R.ok i c _ h (List.getElem?_eq_getElem hs)⟩
theorem GX.tr {t : GX} (ok : t.Ok K G H) (hp : p ∈ t.fp) : ∃ o, H p = some o ∧ (∀ ps, o ≠ .tbl ps) ∧ (∀ f, o ≠ .ext f) ∧ ∀ xs, o ≠ .tup xs := by
  cases t with
  | oi a kvs =>
    obtain ⟨ws, e, _⟩ := ok
    rw [List.mem_singleton.mp hp]
    exact ⟨_, e, fun _ z => (nomatch z), fun _ z => (nomatch z), fun _ z => (nomatch z)⟩
  | og a gs =>
    obtain ⟨_, e, h⟩ := ok
    rcases List.mem_cons.mp hp with rfl | hp
    · exact ⟨_, e, fun _ z => (nomatch z), fun _ z => (nomatch z), fun _ z => (nomatch z)⟩
    · obtain ⟨g, hg, rfl⟩ := List.mem_map.mp hp
      obtain ⟨vs, e2, _⟩ := h g hg
      exact ⟨_, e2, fun _ z => (nomatch z), fun _ z => (nomatch z), fun _ z => (nomatch z)⟩
  | bu a l n f xs =>
    obtain ⟨_, C, dx, vs, e, _, e2, _⟩ := ok
    rcases List.mem_cons.mp hp with rfl | hp
    · exact ⟨_, e, fun _ z => (nomatch z), fun _ z => (nomatch z), fun _ z => (nomatch z)⟩
    · rw [List.mem_singleton.mp hp]
      exact ⟨_, e2, fun _ z => (nomatch z), fun _ z => (nomatch z), fun _ z => (nomatch z)⟩
  | b0 a n =>
    obtain ⟨C, dx, e, _⟩ := ok
    rw [List.mem_singleton.mp hp]
    exact ⟨_, e, fun _ z => (nomatch z), fun _ z => (nomatch z), fun _ z => (nomatch z)⟩
  | nm a x => cases hp
theorem GX.stay {t : GX} (ok : t.Ok K G H) (sg : Same G G') (hk : ∀ b ∈ t.fp, H' b = H b) : t.Ok K G' H' := by
  cases t with
  | oi a kvs =>
    obtain ⟨ws, e, k, d⟩ := ok
    exact ⟨ws, by rw [hk a (by simp [GX.fp])]; exact e, k, d.mono sg⟩
  | og a gs =>
    obtain ⟨n, e, h⟩ := ok
    refine ⟨n, by rw [hk a (by simp [GX.fp])]; exact e, fun g hg => ?_⟩
    obtain ⟨vs, e2, d⟩ := h g hg
    exact ⟨vs, by rw [hk _ (List.mem_cons_of_mem _ (List.mem_map.mpr ⟨g, hg, rfl⟩))]; exact e2, d.mono sg⟩
  | bu a l n f xs =>
    obtain ⟨n1, C, dx, vs, e, k, e2, d⟩ := ok
    exact ⟨n1, C, dx, vs, by rw [hk a (by simp [GX.fp])]; exact e, k, by rw [hk l (by simp [GX.fp])]; exact e2, d.mono sg⟩
  | b0 a n =>
    obtain ⟨C, dx, e, k⟩ := ok
    exact ⟨C, dx, by rw [hk a (by simp [GX.fp])]; exact e, k⟩
  | nm a x => exact ok
theorem cell_tracked (ok : CellOk K G H c (some (.ref a))) (hc : p ∈ c.fp) : ∃ o, H p = some o := by
  cases c with
  | em => cases hc
  | d x => cases hc
  | ol a xs =>
    obtain ⟨_, vs, e, _⟩ := ok
    rw [List.mem_singleton.mp hc]; exact ⟨_, e⟩
  | dk a b c =>
    obtain ⟨_, _, _, _, n, xs, ys, e1, e2, e3, _⟩ := ok
    simp only [Cell.fp, List.mem_cons, List.not_mem_nil, or_false] at hc
    rcases hc with rfl | rfl | rfl
    · exact ⟨_, e1⟩
    · exact ⟨_, e2⟩
    · exact ⟨_, e3⟩
  | scr a ns => cases hc
  | xc a cls d x => cases hc
  | fv a m => cases hc
  | gx t => obtain ⟨o, e, _⟩ := GX.tr ok.2 hc; exact ⟨o, e⟩
  | ob a n fs =>
    obtain ⟨_, C, dx, ws, e, _⟩ := ok
    rw [List.mem_singleton.mp hc]; exact ⟨_, e⟩
  | od a kvs =>
    obtain ⟨_, ws, e, _⟩ := ok
    rw [List.mem_singleton.mp hc]; exact ⟨_, e⟩
  | dx a b c xs n ys =>
    obtain ⟨_, _, _, _, e1, e2, e3⟩ := ok
    simp only [Cell.fp, List.mem_cons, List.not_mem_nil, or_false] at hc
    rcases hc with rfl | rfl | rfl
    · exact ⟨_, e1⟩
    · exact ⟨_, e2⟩
    · exact ⟨_, e3⟩
theorem cell_tr {o : Option V} (ok : CellOk K G H c o) (hc : p ∈ c.fp) : ∃ o, H p = some o := by
  cases c with
  | em => cases hc
  | d x => cases hc
  | ol a xs => exact cell_tracked (a := a) (by obtain ⟨e, r⟩ := ok; exact ⟨rfl, r⟩) hc
  | dk a b c => exact cell_tracked (K := K) (G := G) (a := a) (by obtain ⟨e, r⟩ := ok; exact ⟨rfl, r⟩) hc
  | scr a ns => cases hc
  | xc a cls d x => cases hc
  | fv a m => cases hc
  | gx t => obtain ⟨o, e, _⟩ := GX.tr ok.2 hc; exact ⟨o, e⟩
  | ob a n fs => exact cell_tracked (K := K) (G := G) (a := a) (by obtain ⟨e, r⟩ := ok; exact ⟨rfl, r⟩) hc
  | od a kvs => exact cell_tracked (K := K) (G := G) (a := a) (by obtain ⟨e, r⟩ := ok; exact ⟨rfl, r⟩) hc
  | dx a b c xs n ys => exact cell_tracked (K := K) (G := G) (a := a) (by obtain ⟨e, r⟩ := ok; exact ⟨rfl, r⟩) hc
theorem notTE_dT {ws : List (List Key × V)} : notTE (.dT ws) := ⟨fun _ z => (nomatch z), fun _ z => (nomatch z), fun _ z => (nomatch z)⟩
theorem notTE_ins {C dx : Addr} {ws : List (Str × V)} : notTE (.ins C dx ws) := ⟨fun _ z => (nomatch z), fun _ z => (nomatch z), fun _ z => (nomatch z)⟩
theorem cell_te {c : Cell} {p : Addr} {o : Option V} (ok : CellOk K G H c o) (hc : p ∈ c.fp) : ∀ x, H p = some x → notTE x := by
  have one : ∀ {y : HO}, H p = some y → notTE y → ∀ x, H p = some x → notTE x := fun {y} e h x e2 => by
    rw [e] at e2
    cases e2
    exact h
  cases c with
  | em => cases hc
  | d x => cases hc
  | ol a xs =>
    obtain ⟨_, vs, e, _⟩ := ok
    rw [List.mem_singleton.mp hc] at one ⊢
    exact one e notTE_lst
  | dk a b c =>
    obtain ⟨_, _, _, _, n, xs, ys, e1, e2, e3, _⟩ := ok
    simp only [Cell.fp, List.mem_cons, List.not_mem_nil, or_false] at hc
    rcases hc with rfl | rfl | rfl
    · exact one e1 notTE_lst
    · exact one e2 notTE_lst
    · exact one e3 notTE_lst
  | scr a ns => cases hc
  | xc a cls d x => cases hc
  | fv a m => cases hc
  | gx t => obtain ⟨o, e, n1, n2⟩ := GX.tr ok.2 hc; exact one e ⟨n1, n2⟩
  | ob a n fs =>
    obtain ⟨_, C, dx, ws, e, _⟩ := ok
    rw [List.mem_singleton.mp hc] at one ⊢
    exact one e notTE_ins
  | od a kvs =>
    obtain ⟨_, ws, e, _⟩ := ok
    rw [List.mem_singleton.mp hc] at one ⊢
    exact one e notTE_dT
  | dx a b c xs n ys =>
    obtain ⟨_, _, _, _, e1, e2, e3⟩ := ok
    simp only [Cell.fp, List.mem_cons, List.not_mem_nil, or_false] at hc
    rcases hc with rfl | rfl | rfl
    · exact one e1 notTE_lst
    · exact one e2 notTE_lst
    · exact one e3 notTE_lst
theorem CellOk.stay {o : Option V} (ok : CellOk K G H c o) (sg : Same G G') (hk : ∀ b ∈ c.fp, H' b = H b) : CellOk K G' H' c o := by
  cases c with
  | em => trivial
  | d x => obtain ⟨v, e, h⟩ := ok; exact ⟨v, e, h.mono sg⟩
  | ol a xs =>
    obtain ⟨e, vs, h, t⟩ := ok
    exact ⟨e, vs, by rw [hk a (by simp [Cell.fp])]; exact h, t.mono sg⟩
  | dk a b c =>
    obtain ⟨e, h1, h2, h3, n, xs, ys, e1, e2, e3, r⟩ := ok
    exact ⟨e, h1, h2, h3, n, xs, ys, by rw [hk a (by simp [Cell.fp])]; exact e1, by rw [hk b (by simp [Cell.fp])]; exact e2, by rw [hk c (by simp [Cell.fp])]; exact e3, r⟩
  | scr a ns => exact ⟨ok.1, sg.seq ok.2⟩
  | fv a m => exact ⟨ok.1, ok.2.trans sg⟩
  | gx t => exact ⟨ok.1, GX.stay ok.2 sg hk⟩
  | xc a cls d x => exact ⟨ok.1, ok.2.mono sg⟩
  | ob a n fs =>
    obtain ⟨e, C, dx, ws, h, k, e2, t⟩ := ok
    exact ⟨e, C, dx, ws, by rw [hk a (by simp [Cell.fp])]; exact h, k, e2, t.mono sg⟩
  | od a kvs =>
    obtain ⟨e, ws, h, t1, t2⟩ := ok
    exact ⟨e, ws, by rw [hk a (by simp [Cell.fp])]; exact h, t1, t2.mono sg⟩
  | dx a b c xs n ys =>
    obtain ⟨e, h1, h2, h3, e1, e2, e3⟩ := ok
    exact ⟨e, h1, h2, h3, by rw [hk a (by simp [Cell.fp])]; exact e1, by rw [hk b (by simp [Cell.fp])]; exact e2, by rw [hk c (by simp [Cell.fp])]; exact e3⟩
theorem Rel.tr (R : Rel K B G δ σ H) (h : δ[i]? = some c) (hc : p ∈ c.fp) : ∃ o, H p = some o := by
  obtain ⟨o, _, ok⟩ := R.at h
  exact cell_tr ok hc
theorem Rel.freeG (R : Rel K B G δ σ H) (h : H p = none) : G p = none := R.sg.free h
theorem Rel.freeB (R : Rel K B G δ σ H) (h : H p = none) : B p = none := R.sb.free h
theorem Rel.laid (R : Rel K B G δ σ H) (h : H p = none) (nt : ∀ ps, o ≠ .tbl ps := by exact fun _ z => (nomatch z)) : Rel K B (upd G p o) δ σ (upd H p o) ∧ Same G (upd G p o) := by
  have sG : Same G (upd G p o) := same_new (R.freeG h)
  refine ⟨⟨R.len, fun b x e => ?_, R.sb.trans (same_new h), fun b => ?_, fun i c w e1 e2 => ?_, R.ap, fun i c b e hb => ?_, ⟨tabs_new R.tt.t h, R.tt.n.updG nt⟩⟩, sG⟩
  · by_cases hb : b = p
    · subst hb; rw [upd_same] at e ⊢; exact e
    · rw [upd_ne hb] at e ⊢; exact R.sg _ _ e
  · by_cases hb : b = p
    · subst hb; exact .inr (R.freeB h)
    · rw [upd_ne hb]; exact R.dj b
  · refine (R.ok i c w e1 e2).stay sG fun b hb => ?_
    obtain ⟨x, ex⟩ := R.tr e1 hb
    exact upd_ne (ne_of_none ex h)
  · obtain ⟨x, ex⟩ := R.tr e hb
    obtain ⟨f1, f2⟩ := R.fr i c b e hb
    exact ⟨by rw [upd_ne (ne_of_none ex h)]; exact f1, f2⟩
theorem Rel.laidT (R : Rel K B G δ σ H) (h : H p = none) {o : Obj} {xs : List V} (hd : o.dict = none) : Rel K B (upd G p (tupH o xs)) δ σ (upd H p (tupH o xs)) ∧ Same G (upd G p (tupH o xs)) ∧ TupAt (upd G p (tupH o xs)) p xs := by
  obtain ⟨r, s⟩ := R.laid h tupH_tbl
  exact ⟨r, s, o, hd, upd_same⟩
theorem Rel.grow (R : Rel K B G δ σ H) (h : H p = none) : Rel K B G δ σ (upd H p o) := by
  refine ⟨R.len, R.sg.trans (same_new h), R.sb.trans (same_new h), R.dj, fun i c w e1 e2 => ?_, R.ap, R.fr, ⟨tabs_new R.tt.t h, R.tt.n⟩⟩
  refine (R.ok i c w e1 e2).stay (Same.refl _) fun b hb => ?_
  obtain ⟨x, ex⟩ := R.tr e1 hb
  exact upd_ne (ne_of_none ex h)
theorem Rel.growB (R : Rel K B G δ σ H) (h : H p = none) (nt : notTE o := by exact ⟨fun _ z => (nomatch z), fun _ z => (nomatch z), fun _ z => (nomatch z)⟩) : Rel K (upd B p o) G δ σ (upd H p o) := by
  refine ⟨R.len, R.sg.trans (same_new h), fun b x e => ?_, fun b => ?_, fun i c w e1 e2 => ?_, R.ap, fun i c b e hb => ?_, ⟨tabs_new R.tt.t h, R.tt.n.updB nt⟩⟩
  · by_cases hb : b = p
    · subst hb; rw [upd_same] at e ⊢; exact e
    · rw [upd_ne hb] at e ⊢; exact R.sb _ _ e
  · by_cases hb : b = p
    · subst hb; exact .inl (R.freeG h)
    · rw [upd_ne hb]; exact R.dj b
  · refine (R.ok i c w e1 e2).stay (Same.refl _) fun b hb => ?_
    obtain ⟨x, ex⟩ := R.tr e1 hb
    exact upd_ne (ne_of_none ex h)
  · obtain ⟨x, ex⟩ := R.tr e hb
    obtain ⟨f1, f2⟩ := R.fr i c b e hb
    exact ⟨f1, by rw [upd_ne (ne_of_none ex h)]; exact f2⟩
theorem Rel.putB (R : Rel K B G δ σ H) {u : HO} (h : B p = some u) (hu : notTE u) (nt : notTE o := by exact ⟨fun _ z => (nomatch z), fun _ z => (nomatch z), fun _ z => (nomatch z)⟩) : Rel K (upd B p o) G δ σ (upd H p o) := by
  have gp : G p = none := by
    rcases R.dj p with e | e
    · exact e
    · rw [h] at e; cases e
  refine ⟨R.len, fun b x e => ?_, fun b x e => ?_, fun b => ?_, fun i c w e1 e2 => ?_, R.ap, fun i c b e hb => ?_, ⟨tabs_upd R.tt.t fun x e => by rw [R.sb _ _ h] at e; cases e; exact hu, R.tt.n.updB nt⟩⟩
  · have hb : b ≠ p := fun z => by rw [z, gp] at e; cases e
    rw [upd_ne hb]; exact R.sg _ _ e
  · by_cases hb : b = p
    · subst hb; rw [upd_same] at e ⊢; exact e
    · rw [upd_ne hb] at e ⊢; exact R.sb _ _ e
  · by_cases hb : b = p
    · subst hb; exact .inl gp
    · rw [upd_ne hb]; exact R.dj b
  · refine (R.ok i c w e1 e2).stay (Same.refl _) fun b hb => upd_ne fun z => ?_
    have := (R.fr i c b e1 hb).2
    rw [z, h] at this; cases this
  · obtain ⟨f1, f2⟩ := R.fr i c b e hb
    refine ⟨f1, ?_⟩
    rw [upd_ne (fun z => by rw [z, h] at f2; cases f2)]; exact f2
theorem Rel.takeB (R : Rel K B G δ σ H) {B0 : Hp} (h0 : B0 p = none) (hs : ∀ b, b ≠ p → B0 b = B b) {u : HO} (h : B p = some u) : Rel K B0 (upd G p u) δ σ H ∧ Same G (upd G p u) := by
  have gp : G p = none := by
    rcases R.dj p with e | e
    · exact e
    · rw [h] at e; cases e
  have sG : Same G (upd G p u) := same_new gp
  refine ⟨⟨R.len, fun b x e => ?_, fun b x e => ?_, fun b => ?_, fun i c w e1 e2 => (R.ok i c w e1 e2).stay sG fun _ _ => rfl, R.ap, fun i c b e hb => ?_, ⟨R.tt.t, (R.tt.n.lessB fun b o e => by
    have hb : b ≠ p := fun z => by rw [z, h0] at e; cases e
    rw [hs b hb] at e; exact e).updG (R.tt.n.b _ _ h).1⟩⟩, sG⟩
  · by_cases hb : b = p
    · subst hb; rw [upd_same] at e; cases e; exact R.sb _ _ h
    · rw [upd_ne hb] at e; exact R.sg _ _ e
  · have hb : b ≠ p := fun z => by rw [z, h0] at e; cases e
    rw [hs b hb] at e; exact R.sb _ _ e
  · by_cases hb : b = p
    · subst hb; exact .inr h0
    · rw [upd_ne hb, hs b hb]; exact R.dj b
  · obtain ⟨f1, f2⟩ := R.fr i c b e hb
    have hbp : b ≠ p := fun z => by rw [z, h] at f2; cases f2
    exact ⟨by rw [upd_ne hbp]; exact f1, by rw [hs b hbp]; exact f2⟩
theorem Rel.set {v : V} (R : Rel K B G δ σ H) (ok : CellOk K G H c (some v)) (hn : ∀ a ∈ c.fp, (G a = none ∧ B a = none) ∧ ∀ j c', j ≠ i → δ[j]? = some c' → a ∉ c'.fp) : Rel K B G (δ.set i c) (σ.set i (some v)) H := by
  have get : ∀ {j : Nat} {x : Cell}, (δ.set i c)[j]? = some x → (j = i ∧ x = c) ∨ (j ≠ i ∧ δ[j]? = some x) := fun {j x} e => by
    by_cases hj : j = i
    · subst hj
      rw [List.getElem?_set] at e
      simp only [if_true] at e
      split at e
      · cases e; exact .inl ⟨rfl, rfl⟩
      · cases e
    · rw [List.getElem?_set_ne (Ne.symm hj)] at e; exact .inr ⟨hj, e⟩
  refine ⟨by simp [R.len], R.sg, R.sb, R.dj, fun j x w e1 e2 => ?_, fun j k x y a e1 e2 m1 m2 => ?_, fun j x a e m => ?_, R.tt⟩
  · rcases get e1 with ⟨rfl, rfl⟩ | ⟨hj, e1⟩
    · rw [List.getElem?_set] at e2
      simp only [if_true] at e2
      split at e2
      · cases e2; exact ok
      · cases e2
    · rw [List.getElem?_set_ne (Ne.symm hj)] at e2
      exact R.ok j x w e1 e2
  · rcases get e1 with ⟨h1, h1'⟩ | ⟨h1, e3⟩
    · rcases get e2 with ⟨h2, h2'⟩ | ⟨h2, e4⟩
      · rw [h1, h2]
      · rw [h1'] at m1; exact absurd m2 ((hn a m1).2 k y h2 e4)
    · rcases get e2 with ⟨h2, h2'⟩ | ⟨h2, e4⟩
      · rw [h2'] at m2; exact absurd m1 ((hn a m2).2 j x h1 e3)
      · exact R.ap j k x y a e3 e4 m1 m2
  · rcases get e with ⟨_, rfl⟩ | ⟨_, e⟩
    · exact (hn a m).1
    · exact R.fr j x a e m
theorem Rel.setD {v : V} {x : PyData} (R : Rel K B G δ σ H) (h : Dn K G v x) : Rel K B G (δ.set i (.d x)) (σ.set i (some v)) H :=
  R.set ⟨v, rfl, h⟩ fun a m => by cases m
theorem Rel.clear (R : Rel K B G δ σ H) (o : Option V) : Rel K B G (δ.set i .em) (σ.set i o) H := by
  have get : ∀ {j : Nat} {x : Cell}, (δ.set i .em)[j]? = some x → x = .em ∨ (j ≠ i ∧ δ[j]? = some x) := fun {j x} e => by
    by_cases hj : j = i
    · subst hj
      rw [List.getElem?_set] at e
      simp only [if_true] at e
      split at e
      · cases e; exact .inl rfl
      · cases e
    · rw [List.getElem?_set_ne (Ne.symm hj)] at e; exact .inr ⟨hj, e⟩
  refine ⟨by simp [R.len], R.sg, R.sb, R.dj, fun j x w e1 e2 => ?_, fun j k x y a e1 e2 m1 m2 => ?_, fun j x a e m => ?_, R.tt⟩
  · rcases get e1 with rfl | ⟨hj, e1⟩
    · trivial
    · rw [List.getElem?_set_ne (Ne.symm hj)] at e2
      exact R.ok j x w e1 e2
  · rcases get e1 with rfl | ⟨h1, e1⟩
    · cases m1
    · rcases get e2 with rfl | ⟨h2, e2⟩
      · cases m2
      · exact R.ap j k x y a e1 e2 m1 m2
  · rcases get e with rfl | ⟨_, e⟩
    · cases m
    · exact R.fr j x a e m
theorem Rel.recell {o : Option V} (R : Rel K B G δ σ H) (hσ : σ[i]? = some o) (ok : CellOk K G H c o) (hn : ∀ a ∈ c.fp, (G a = none ∧ B a = none) ∧ ∀ j c', j ≠ i → δ[j]? = some c' → a ∉ c'.fp) : Rel K B G (δ.set i c) σ H := by
  have hi : i < σ.length := (List.getElem?_eq_some_iff.mp hσ).1
  cases o with
  | some v =>
    have := R.set (i := i) (v := v) ok hn
    have e : σ.set i (some v) = σ := by
      apply List.ext_getElem?
      intro j
      by_cases hj : j = i
      · subst hj; rw [List.getElem?_set_self hi, hσ]
      · rw [List.getElem?_set_ne (Ne.symm hj)]
    rw [e] at this; exact this
  | none =>
    cases c with
    | em =>
      have := R.clear (i := i) none
      have e : σ.set i none = σ := by
        apply List.ext_getElem?
        intro j
        by_cases hj : j = i
        · subst hj; rw [List.getElem?_set_self hi, hσ]
        · rw [List.getElem?_set_ne (Ne.symm hj)]
      rw [e] at this; exact this
    | d x => obtain ⟨v, e, _⟩ := ok; cases e
    | ol a xs => obtain ⟨e, _⟩ := ok; cases e
    | dk a b c => obtain ⟨e, _⟩ := ok; cases e
    | scr a ns => obtain ⟨e, _⟩ := ok; cases e
    | xc a cls d x => obtain ⟨e, _⟩ := ok; cases e
    | ob a n fs => obtain ⟨e, _⟩ := ok; cases e
    | fv a m => obtain ⟨e, _⟩ := ok; cases e
    | gx t => obtain ⟨e, _⟩ := ok; cases e
    | od a kvs => obtain ⟨e, _⟩ := ok; cases e
    | dx a b c xs n ys => obtain ⟨e, _⟩ := ok; cases e
theorem Rel.freeze {xs : List PyData} (R : Rel K B G δ σ H) (h : δ[i]? = some (.ol a xs)) :
    ∃ vs, H a = some (.lst vs) ∧ DnL K G vs xs ∧ σ[i]? = some (some (.ref a)) ∧ Same G (upd G a (.lst vs)) ∧ Rel K B (upd G a (.lst vs)) (δ.set i (.d (.list xs))) σ H ∧ Dn K (upd G a (.lst vs)) (.ref a) (.list xs) := by
  obtain ⟨o, hσ, rfl, vs, e, t⟩ := R.at h
  obtain ⟨ga, ba⟩ := R.fr i _ a h (by simp [Cell.fp])
  have sG : Same G (upd G a (.lst vs)) := same_new ga
  have dn : Dn K (upd G a (.lst vs)) (.ref a) (.list xs) := .lst upd_same (t.mono sG)
  have hi : i < δ.length := (List.getElem?_eq_some_iff.mp h).1
  have get : ∀ {j : Nat} {x : Cell}, (δ.set i (.d (.list xs)))[j]? = some x → (j = i ∧ x = .d (.list xs)) ∨ (j ≠ i ∧ δ[j]? = some x) := fun {j x} e => by
    by_cases hj : j = i
    · subst hj
      rw [List.getElem?_set_self hi] at e; cases e; exact .inl ⟨rfl, rfl⟩
    · rw [List.getElem?_set_ne (Ne.symm hj)] at e; exact .inr ⟨hj, e⟩
  refine ⟨vs, e, t, hσ, sG, ⟨by simp [R.len], fun b x q => ?_, R.sb, fun b => ?_, fun j x w e1 e2 => ?_, fun j k x y z e1 e2 m1 m2 => ?_, fun j x z e1 m => ?_, ⟨R.tt.t, R.tt.n.updG fun _ z => (nomatch z)⟩⟩, dn⟩
  · by_cases hb : b = a
    · subst hb; rw [upd_same] at q; cases q; exact e
    · rw [upd_ne hb] at q; exact R.sg _ _ q
  · by_cases hb : b = a
    · subst hb; exact .inr ba
    · rw [upd_ne hb]; exact R.dj b
  · rcases get e1 with ⟨rfl, rfl⟩ | ⟨hj, e1⟩
    · rw [hσ] at e2; cases e2; exact ⟨_, rfl, dn⟩
    · exact (R.ok j x w e1 e2).stay sG fun _ _ => rfl
  · rcases get e1 with ⟨_, rfl⟩ | ⟨h1, e1⟩
    · cases m1
    · rcases get e2 with ⟨_, rfl⟩ | ⟨h2, e2⟩
      · cases m2
      · exact R.ap j k x y z e1 e2 m1 m2
  · rcases get e1 with ⟨_, rfl⟩ | ⟨hj, e1⟩
    · cases m
    · obtain ⟨f1, f2⟩ := R.fr j x z e1 m
      refine ⟨?_, f2⟩
      rw [upd_ne (fun q => ?_)]
      · exact f1
      · subst q
        exact hj (R.ap j i x _ z e1 h m (by simp [Cell.fp]))
theorem Rel.write {xs ys : List PyData} {ws : List V} (R : Rel K B G δ σ H) (h : δ[i]? = some (.ol a xs)) (t' : DnL K G ws ys) : Rel K B G (δ.set i (.ol a ys)) σ (upd H a (.lst ws)) := by
  obtain ⟨o, hσ, rfl, vs, e, t⟩ := R.at h
  obtain ⟨ga, ba⟩ := R.fr i _ a h (by simp [Cell.fp])
  have hi : i < δ.length := (List.getElem?_eq_some_iff.mp h).1
  have get : ∀ {j : Nat} {x : Cell}, (δ.set i (.ol a ys))[j]? = some x → (j = i ∧ x = .ol a ys) ∨ (j ≠ i ∧ δ[j]? = some x) := fun {j x} e => by
    by_cases hj : j = i
    · subst hj
      rw [List.getElem?_set_self hi] at e; cases e; exact .inl ⟨rfl, rfl⟩
    · rw [List.getElem?_set_ne (Ne.symm hj)] at e; exact .inr ⟨hj, e⟩
  refine ⟨by simp [R.len], fun b x q => ?_, fun b x q => ?_, R.dj, fun j x w e1 e2 => ?_, fun j k x y z e1 e2 m1 m2 => ?_, fun j x z e1 m => ?_, ⟨tabs_upd R.tt.t fun x e' => by rw [e] at e'; cases e'; exact notTE_lst, R.tt.n⟩⟩
  · rw [upd_ne (fun z => by rw [z, ga] at q; cases q)]; exact R.sg _ _ q
  · rw [upd_ne (fun z => by rw [z, ba] at q; cases q)]; exact R.sb _ _ q
  · rcases get e1 with ⟨rfl, rfl⟩ | ⟨hj, e1⟩
    · rw [hσ] at e2; cases e2; exact ⟨rfl, ws, upd_same, t'⟩
    · refine (R.ok j x w e1 e2).stay (Same.refl _) fun b hb => upd_ne fun q => ?_
      rw [q] at hb
      exact hj (R.ap j i x _ a e1 h hb (by simp [Cell.fp]))
  · rcases get e1 with ⟨h1, rfl⟩ | ⟨h1, e1⟩
    · rcases get e2 with ⟨h2, rfl⟩ | ⟨h2, e2⟩
      · rw [h1, h2]
      · exact h1.trans (R.ap i k _ y z h e2 (by simpa [Cell.fp] using m1) m2)
    · rcases get e2 with ⟨h2, rfl⟩ | ⟨h2, e2⟩
      · exact (R.ap j i x _ z e1 h m1 (by simpa [Cell.fp] using m2)).trans h2.symm
      · exact R.ap j k x y z e1 e2 m1 m2
  · rcases get e1 with ⟨_, rfl⟩ | ⟨hj, e1⟩
    · have : z = a := by simpa [Cell.fp] using m
      subst this; exact ⟨ga, ba⟩
    · exact R.fr j x z e1 m
end
end DL
set_option Elab.async false
set_option linter.all false
set_option maxRecDepth 100000
set_option maxHeartbeats 4000000
namespace DL
open PySem PySem.Spec PyProof.Rows L2
section
variable {X : Cx}
def NewT (H : Hp) (Q : VK) (xs : List V) : Prop := ∀ p o, o.dict = none → H p = none → Q (.ref p) (upd H p (tupH o xs))
theorem NewT.at {pins : List (Addr × Obj)} {σ : L2.St} {H : Hp} {s : Shared} {Q : VK} {xs : List V} {us : List Value} {k : Nat} (h : NewT H Q xs) (I : Inv X pins σ H s) (z : xs.length ≤ sizeLine) (r : Vals xs us) :
    ∃ (v : V) (H' : Hp), Inv X pins σ H' { s with heap := s.heap.push (tupO us), toks := k } ∧ RelV v (.ref s.heap.objs.size) ∧ Q v H' :=
  ⟨.ref s.heap.objs.size, _, I.laid (fun _ _ => Heap.get?_push_of_some _) (Nat.le_refl _) (tupH_ok (Heap.get?_push_size _ rfl) rfl rfl z r), rfl, h _ _ rfl (I.hok.fresh (Nat.le_refl _))⟩
def tTupC (t : TA) : TE := fun σ H Q => t σ H fun xs H1 => xs.length ≤ sizeLine ∧ NewT H1 Q xs
theorem pe_tupC {es : List Expr} {pos : Pos} {x1} {t : TA} (h : PA X es t) : PE X (.Tuple es x1 pos) (tTupC t) :=
  ⟨fun pins s σ H Q I hq => wpAny_Tuple_spliced (wpAny_mono (h.run pos pins s σ H _ I hq) (fun us s1 ⟨xs, H1, I1, r, z, q⟩ => ⟨by rw [← r.length]; exact z, q.at I1 z r⟩) fun _ _ z => z)⟩
theorem call_tupleC : CallR X (.type "tuple") (fun xs H Q => ∃ p ys, xs = [.ref p] ∧ ((SqL X.K H p ys ∧ NewT H Q ys) ∨ (SqT X.K H p ys ∧ Q (.ref p) H))) := by
  rintro pins s σ H _ us Q I r ⟨p, ys, rfl, ⟨hq, q⟩ | ⟨hq, q⟩⟩
  · obtain _ | ⟨rx, _ | _⟩ := r
    cases rx
    obtain ⟨its, r2, pl, hz⟩ := I.list hq
    refine call_tuple_list pl.isList (fun g keep => q.at (I.kept (t' := s.toks) keep) hz r2) ?_
    have := r2.length
    simp only [List.size_toArray]; omega
  · exact call_tuple_of pins s σ H _ us Q I r ⟨p, ys, rfl, .inr ⟨hq, q⟩⟩
def rCatC (K : PySem.W.Frag) : R2 := fun x y H Q => ∃ a b xs ys, x = .ref a ∧ y = .ref b ∧ SqT K H a xs ∧ SqT K H b ys ∧ xs.length + ys.length ≤ sizeLine ∧
  (xs = [] → Q (.ref b) H) ∧ (xs ≠ [] → ys = [] → Q (.ref a) H) ∧ (xs ≠ [] → ys ≠ [] → NewT H Q (xs ++ ys))
theorem op_catC : OpR X (binaryOp .Add) (rCatC X.K) := by
  rintro pins s σ H _ _ v u Q I rx ry ⟨a, b, xs, ys, rfl, rfl, ha, hb, hz, q0, q1, q2⟩
  by_cases hx : xs = []
  · exact op_catA pins s σ H _ _ v u Q I rx ry ⟨a, b, xs, ys, rfl, rfl, ha, hb, hz, q0, q1, fun n => absurd hx n⟩
  · cases rx; cases ry
    obtain ⟨its, r1, p1, _⟩ := I.tuple ha
    obtain ⟨its2, r2, p2, _⟩ := I.tuple hb
    have l1 := r1.length
    have l2 := r2.length
    exact HT.cat_tup p1 p2 (fun z => hx (r1.nil_iff.mp z)) (fun z => ⟨.ref a, H, I, rfl, q1 hx (r2.nil_iff.mp z)⟩)
      (fun z => (q2 hx fun w => z (r2.nil_iff.mpr w)).at (k := s.toks) I (by rw [List.length_append]; exact hz) (r1.append r2)) (by omega)
def rSlC (K : PySem.W.Frag) : V → Option Int → Option Int → Hp → VK → Prop := fun x lo hi H Q => ∃ a xs, x = .ref a ∧ SqT K H a xs ∧
  (HT.sIx xs.length 0 lo = 0 ∧ HT.sIx xs.length xs.length hi = xs.length → Q (.ref a) H) ∧ (¬ (HT.sIx xs.length 0 lo = 0 ∧ HT.sIx xs.length xs.length hi = xs.length) → NewT H Q (cutV xs lo hi))
theorem sl_tupC : SlR X (rSlC X.K) := by
  rintro pins s σ H _ v vl vu lo hi sl Q I rx hs pl pu ⟨a, xs, rfl, hx, q1, q2⟩
  by_cases hw : HT.sIx xs.length 0 lo = 0 ∧ HT.sIx xs.length xs.length hi = xs.length
  · exact sl_tupA pins s σ H _ v vl vu lo hi sl Q I rx hs pl pu ⟨a, xs, rfl, hx, q1, fun n => absurd hw n⟩
  · cases rx
    obtain ⟨its, r, ht, hz⟩ := I.tuple hx
    have hlen : its.toArray.size = xs.length := by rw [List.size_toArray]; exact r.length.symm
    refine ⟨"tuple", _, PyProof.Rows.slot_tuple_getitem.lookup, ht.typeIs, HT.getItem_tuple_cut ht hs pl pu (by rw [hlen]; exact hw) ?_ (by rw [hlen]; exact hz)⟩
    rw [hlen]
    exact (q2 hw).at (k := s.toks) I (Nat.le_trans (cutV_length xs lo hi) hz) ((r.drop _).take _)
end
end DL
set_option Elab.async false
set_option linter.all false
set_option maxRecDepth 100000
set_option maxHeartbeats 4000000
namespace DL
open PySem PySem.Spec PyProof.Rows L2
variable [Tb]

inductive Opd where
  | d (x : PyData)
  | s (i : Nat)
def OpdOk (K : PySem.W.Frag) (G : Hp) (σ : L2.St) (v : V) : Opd → Prop
  | .d x => Dn K G v x
  | .s i => σ[i]? = some (some v)
inductive OpdsOk (K : PySem.W.Frag) (G : Hp) (σ : L2.St) : List V → List Opd → Prop
  | nil : OpdsOk K G σ [] []
  | cons {v : V} {vs : List V} {o : Opd} {os : List Opd} (h : OpdOk K G σ v o) (t : OpdsOk K G σ vs os) : OpdsOk K G σ (v :: vs) (o :: os)
def Bor (K : PySem.W.Frag) (G H : Hp) (v : V) (x : PyData) : Prop := Dn K G v x ∨ ∃ a vs xs, v = .ref a ∧ x = .list xs ∧ H a = some (.lst vs) ∧ DnL K G vs xs
def use (o : Opd) (δ : DS) (k : PyData → Prop) : Prop :=
  match o with
  | .d x => k x
  | .s i => match δ[i]? with
    | some (.d x) => k x
    | some (.ol _ xs) => k (.list xs)
    | _ => False
def lk (o : Opd) (δ : DS) (k : PyData → DS → Prop) : Prop :=
  match o with
  | .d x => k x δ
  | .s i => match δ[i]? with
    | some (.d x) => k x δ
    | some (.ol _ xs) => k (.list xs) (δ.set i (.d (.list xs)))
    | _ => False
def useL : List Opd → DS → (List PyData → Prop) → Prop
  | [], _, k => k []
  | o :: os, δ, k => use o δ fun x => useL os δ fun xs => k (x :: xs)
def lkL : List Opd → DS → (List PyData → DS → Prop) → Prop
  | [], δ, k => k [] δ
  | o :: os, δ, k => lk o δ fun x δ1 => lkL os δ1 fun xs δ2 => k (x :: xs) δ2
inductive BorL (K : PySem.W.Frag) (G H : Hp) : List V → List PyData → Prop
  | nil : BorL K G H [] []
  | cons {v : V} {vs : List V} {d : PyData} {ds : List PyData} (h : Bor K G H v d) (t : BorL K G H vs ds) : BorL K G H (v :: vs) (d :: ds)
section
variable {K : PySem.W.Frag} {B G G' H H' : Hp} {δ δ' : DS} {σ : L2.St} {v : V} {o : Opd} {x : PyData}
theorem OpdOk.mono (s : Same G G') (h : OpdOk K G σ v o) : OpdOk K G' σ v o := by
  cases o with
  | d x => exact Dn.mono s x h
  | s i => exact h
theorem OpdsOk.mono (s : Same G G') : ∀ {vs : List V} {os : List Opd}, OpdsOk K G σ vs os → OpdsOk K G' σ vs os
  | _, [], h => by cases h; exact .nil
  | _, o :: os, h => by cases h with | cons a b => exact .cons (a.mono s) (OpdsOk.mono s b)
theorem Bor.dn (R : Rel K B G δ σ H) (h : Bor K G H v x) : Dn K H v x := by
  rcases h with h | ⟨a, vs, xs, rfl, rfl, e, t⟩
  · exact h.mono R.sg
  · exact .lst e (t.mono R.sg)
theorem use_ok {k : PyData → Prop} (R : Rel K B G δ σ H) (ok : OpdOk K G σ v o) (h : use o δ k) : ∃ x, k x ∧ Bor K G H v x := by
  cases o with
  | d x => exact ⟨x, h, .inl ok⟩
  | s i =>
    have ok : σ[i]? = some (some v) := ok
    unfold use at h
    simp only at h
    cases e : δ[i]? with
    | none => rw [e] at h; exact h.elim
    | some c =>
      rw [e] at h
      obtain ⟨w, hw, co⟩ := R.at e
      rw [ok] at hw; cases hw
      cases c with
      | em => exact h.elim
      | dk a b c => exact h.elim
      | scr a ns => exact h.elim
      | xc a cls d x => exact h.elim
      | ob a n fs => exact h.elim
      | fv a m => exact h.elim
      | gx t => exact h.elim
      | od a kvs => exact h.elim
      | dx a b c xs n ys => exact h.elim
      | d x =>
        obtain ⟨v', e', q⟩ := co
        cases e'
        exact ⟨x, h, .inl q⟩
      | ol a xs =>
        obtain ⟨e', vs, q, t⟩ := co
        cases e'
        exact ⟨_, h, .inr ⟨a, vs, xs, rfl, rfl, q, t⟩⟩
theorem lk_ok {k : PyData → DS → Prop} (R : Rel K B G δ σ H) (ok : OpdOk K G σ v o) (h : lk o δ k) : ∃ G' δ' x, k x δ' ∧ Same G G' ∧ Rel K B G' δ' σ H ∧ Dn K G' v x := by
  cases o with
  | d x => exact ⟨G, δ, x, h, Same.refl _, R, ok⟩
  | s i =>
    have ok : σ[i]? = some (some v) := ok
    unfold lk at h
    simp only at h
    cases e : δ[i]? with
    | none => rw [e] at h; exact h.elim
    | some c =>
      rw [e] at h
      cases c with
      | em => exact h.elim
      | dk a b c => exact h.elim
      | scr a ns => exact h.elim
      | xc a cls d x => exact h.elim
      | ob a n fs => exact h.elim
      | fv a m => exact h.elim
      | gx t => exact h.elim
      | od a kvs => exact h.elim
      | dx a b c xs n ys => exact h.elim
      | d x =>
        obtain ⟨w, hw, co⟩ := R.at e
        rw [ok] at hw; cases hw
        obtain ⟨v', e', q⟩ := co
        cases e'
        exact ⟨G, δ, x, h, Same.refl _, R, q⟩
      | ol a xs =>
        obtain ⟨vs, q1, q2, q3, q4, q5, q6⟩ := R.freeze e
        rw [ok] at q3; cases q3
        exact ⟨_, _, _, h, q4, q5, q6⟩
theorem useL_ok (R : Rel K B G δ σ H) : ∀ {vs : List V} {os : List Opd} {k : List PyData → Prop}, OpdsOk K G σ vs os → useL os δ k → ∃ xs, k xs ∧ BorL K G H vs xs
  | _, [], _, h, q => by cases h; exact ⟨[], q, .nil⟩
  | _, o :: os, k, h, q => by
    cases h with
    | cons a b =>
      obtain ⟨x, q1, b1⟩ := use_ok R a q
      obtain ⟨xs, q2, b2⟩ := useL_ok R b q1
      exact ⟨x :: xs, q2, .cons b1 b2⟩
theorem lkL_ok : ∀ {vs : List V} {os : List Opd} {G : Hp} {δ : DS} {k : List PyData → DS → Prop}, Rel K B G δ σ H → OpdsOk K G σ vs os → lkL os δ k → ∃ G' δ' xs, k xs δ' ∧ Same G G' ∧ Rel K B G' δ' σ H ∧ DnL K G' vs xs
  | _, [], G, δ, _, R, h, q => by cases h; exact ⟨G, δ, [], q, Same.refl _, R, .nil⟩
  | _, o :: os, G, δ, k, R, h, q => by
    cases h with
    | cons a b =>
      obtain ⟨G1, δ1, x, q1, s1, R1, d1⟩ := lk_ok R a q
      obtain ⟨G2, δ2, xs, q2, s2, R2, d2⟩ := lkL_ok R1 (b.mono s1) q1
      exact ⟨G2, δ2, x :: xs, q2, s1.trans s2, R2, .cons (d1.mono s2) d2⟩
end

abbrev DE := DS → (Opd → DS → Prop) → Prop
abbrev DT := DS → (Bool → DS → Prop) → Prop
abbrev DA := DS → (List Opd → DS → Prop) → Prop
abbrev DL := DS → (List PyData → DS → Prop) → Prop
def up (K : PySem.W.Frag) (w : DE) : TE := fun σ H Q => ∃ B G δ R, Rel K B G δ σ H ∧ w δ R ∧ ∀ v H' G' o δ', R o δ' → Same G G' → Rel K B G' δ' σ H' → OpdOk K G' σ v o → Q v H'
def upT (K : PySem.W.Frag) (w : DT) : TT := fun σ H Q => ∃ B G δ R, Rel K B G δ σ H ∧ w δ R ∧ ∀ b H' G' δ', R b δ' → Same G G' → Rel K B G' δ' σ H' → Q b H'
def upA (K : PySem.W.Frag) (w : DA) : TA := fun σ H Q => ∃ B G δ R, Rel K B G δ σ H ∧ w δ R ∧ ∀ vs H' G' os δ', R os δ' → Same G G' → Rel K B G' δ' σ H' → OpdsOk K G' σ vs os → Q vs H'
def upL (K : PySem.W.Frag) (w : DL) : TE := fun σ H Q => ∃ B G δ R, Rel K B G δ σ H ∧ w δ R ∧ ∀ a vs H' G' xs δ', R xs δ' → Same G G' → Rel K (upd B a (.lst vs)) G' δ' σ H' → B a = none → DnL K G' vs xs → Q (.ref a) H'
abbrev JE (X : Cx) (e : Expr) (w : DE) : Prop := PE X e (up X.K w)
abbrev JT (X : Cx) (e : Expr) (w : DT) : Prop := PT X e (upT X.K w)
abbrev JW (X : Cx) (e : Expr) (w : DT) : Prop := PW X e (upT X.K w)
abbrev JA (X : Cx) (es : List Expr) (w : DA) : Prop := PA X es (upA X.K w)
abbrev JL (X : Cx) (e : Expr) (w : DL) : Prop := PE X e (upL X.K w)
section
variable {X : Cx} {e a b c : Expr} {es : List Expr} {pos : Pos}
theorem pe_le {t t' : TE} (h : PE X e t) (l : ∀ pins s σ H Q, Inv X pins σ H s → t' σ H Q → t σ H Q) : PE X e t' := ⟨fun pins s σ H Q I q => h.run pins s σ H Q I (l pins s σ H Q I q)⟩
theorem pt_le {t t' : TT} (h : PT X e t) (l : ∀ pins s σ H Q, Inv X pins σ H s → t' σ H Q → t σ H Q) : PT X e t' := ⟨fun pins s σ H Q I q => h.run pins s σ H Q I (l pins s σ H Q I q)⟩
theorem pw_le {t t' : TT} (h : PW X e t) (l : ∀ pins s σ H Q, Inv X pins σ H s → t' σ H Q → t σ H Q) : PW X e t' := ⟨fun wh pins s σ H Q I q => h.run wh pins s σ H Q I (l pins s σ H Q I q)⟩
theorem pa_le {t t' : TA} (h : PA X es t) (l : ∀ pins s σ H Q, Inv X pins σ H s → t' σ H Q → t σ H Q) : PA X es t' := ⟨fun pos pins s σ H Q I q => h.run pos pins s σ H Q I (l pins s σ H Q I q)⟩
def wOfL (w : DL) : DE := fun δ R => w δ fun xs δ' => R (.d (.list xs)) δ'
theorem je_ofL {w : DL} (h : JL X e w) : JE X e (wOfL w) := pe_le h fun pins s σ H Q I ⟨B, G, δ, R, rel, hw, k⟩ => by
  refine ⟨B, G, δ, _, rel, hw, fun a vs H' G' xs δ' r sG rel' hB t => ?_⟩
  obtain ⟨rel2, s2⟩ := rel'.takeB (p := a) hB (fun b hb => (upd_ne hb).symm) upd_same
  exact k _ H' _ _ _ r (sG.trans s2) rel2 (Dn.lst upd_same (t.mono s2))

def wVar (i : Nat) : DE := fun δ R => match δ[i]? with
  | some (.d x) => R (.d x) δ
  | some .em => False
  | none => False
  | _ => R (.s i) δ
theorem je_var {i : Nat} {x : Str} (h : PE X (.Name x pos) (tVar i)) : JE X (.Name x pos) (wVar i) := pe_le h fun pins s σ H Q I ⟨B, G, δ, R, rel, hw, k⟩ => by
  unfold wVar at hw
  cases e : δ[i]? with
  | none => rw [e] at hw; exact hw.elim
  | some c =>
    rw [e] at hw
    obtain ⟨w, hw', co⟩ := rel.at e
    cases c with
    | em => exact hw.elim
    | d x =>
      obtain ⟨v, rfl, q⟩ := co
      exact ⟨v, hw', k v H G _ _ hw (Same.refl _) rel q⟩
    | ol a xs =>
      obtain ⟨rfl, _⟩ := co
      exact ⟨_, hw', k _ H G _ _ hw (Same.refl _) rel hw'⟩
    | dk a b c =>
      obtain ⟨rfl, _⟩ := co
      exact ⟨_, hw', k _ H G _ _ hw (Same.refl _) rel hw'⟩
    | ob a n fs =>
      obtain ⟨rfl, _⟩ := co
      exact ⟨_, hw', k _ H G _ _ hw (Same.refl _) rel hw'⟩
    | fv a m =>
      obtain ⟨rfl, _⟩ := co
      exact ⟨_, hw', k _ H G _ _ hw (Same.refl _) rel hw'⟩
    | gx t =>
      obtain ⟨rfl, _⟩ := co
      exact ⟨_, hw', k _ H G _ _ hw (Same.refl _) rel hw'⟩
    | xc a cls d x =>
      obtain ⟨rfl, _⟩ := co
      exact ⟨_, hw', k _ H G _ _ hw (Same.refl _) rel hw'⟩
    | scr a ns =>
      obtain ⟨rfl, _⟩ := co
      exact ⟨_, hw', k _ H G _ _ hw (Same.refl _) rel hw'⟩
    | od a kvs =>
      obtain ⟨rfl, _⟩ := co
      exact ⟨_, hw', k _ H G _ _ hw (Same.refl _) rel hw'⟩
    | dx a b c xs n ys =>
      obtain ⟨rfl, _⟩ := co
      exact ⟨_, hw', k _ H G _ _ hw (Same.refl _) rel hw'⟩
def wC (x : PyData) : DE := fun δ R => R (.d x) δ
theorem je_c {v : V} {x : PyData} (h : PE X e (tC v)) (hv : ∀ K G, Dn K G v x) : JE X e (wC x) := pe_le h fun pins s σ H Q I ⟨B, G, δ, R, rel, hw, k⟩ => k v H G _ _ hw (Same.refl _) rel (hv _ _)
theorem je_int {i j} : JE X (.Constant (.int i) j pos) (wC (.int i)) := je_c pe_int fun _ _ => .int i
theorem je_bl {i j} : JE X (.Constant (.bool i) j pos) (wC (.bool i)) := je_c pe_bl fun _ _ => .bl i
theorem je_non {j} : JE X (.Constant .none j pos) (wC .none) := je_c pe_non fun _ _ => .non

def wNil : DA := fun δ R => R [] δ
def wCons (w : DE) (r : DA) : DA := fun δ R => w δ fun o δ1 => r δ1 fun os δ2 => R (o :: os) δ2
theorem ja_nil : JA X [] wNil := pa_le pa_nil fun pins s σ H Q I ⟨B, G, δ, R, rel, hw, k⟩ => k [] H G _ _ hw (Same.refl _) rel .nil
theorem ja_cons {w : DE} {r : DA} (ha : JE X e w) (hr : JA X es r) (hs : starEach (e :: es) X.env = (false, eval e X.env) :: starEach es X.env := by rfl) : JA X (e :: es) (wCons w r) :=
  pa_le (pa_cons ha hr hs) fun pins s σ H Q I ⟨B, G, δ, R, rel, hw, k⟩ =>
    ⟨B, G, δ, _, rel, hw, fun v H1 G1 o δ1 r1 s1 rel1 ok1 => ⟨B, G1, δ1, _, rel1, r1, fun vs H2 G2 os δ2 r2 s2 rel2 ok2 => k (v :: vs) H2 G2 _ _ r2 (s1.trans s2) rel2 (.cons (ok1.mono s2) ok2)⟩⟩

abbrev P2 := PyData → PyData → (PyData → Prop) → Prop
abbrev PN := List PyData → (PyData → Prop) → Prop
def rOf (K : PySem.W.Frag) (p : P2) : R2 := fun x y H Q => ∃ B G δ σ dx dy R, Rel K B G δ σ H ∧ Bor K G H x dx ∧ Bor K G H y dy ∧ p dx dy R ∧ ∀ v H' G' z, R z → Same G G' → Rel K B G' δ σ H' → Dn K G' v z → Q v H'
abbrev OpD (X : Cx) (f : Value → Value → Sem Value) (p : P2) : Prop := OpR X f (rOf X.K p)
def wOp (p : P2) (wa wb : DE) : DE := fun δ R => wa δ fun o1 δ1 => wb δ1 fun o2 δ2 => use o1 δ2 fun x => use o2 δ2 fun y => p x y fun z => R (.d z) δ2
theorem op_up {p : P2} {wa wb : DE} {K : PySem.W.Frag} {σ : L2.St} {H : Hp} {Q : VK} (h : up K (wOp p wa wb) σ H Q) : tOp (rOf K p) (up K wa) (up K wb) σ H Q := by
  obtain ⟨B, G, δ, R, rel, hw, k⟩ := h
  refine ⟨B, G, δ, _, rel, hw, fun v H1 G1 o1 δ1 r1 s1 rel1 ok1 => ⟨B, G1, δ1, _, rel1, r1, fun u H2 G2 o2 δ2 r2 s2 rel2 ok2 => ?_⟩⟩
  obtain ⟨x, q1, b1⟩ := use_ok rel2 (ok1.mono s2) r2
  obtain ⟨y, q2, b2⟩ := use_ok rel2 ok2 q1
  exact ⟨B, G2, δ2, σ, x, y, _, rel2, b1, b2, q2, fun v' H' G' z rz s3 rel3 dz => k v' H' G' _ _ rz (s1.trans (s2.trans s3)) rel3 dz⟩
theorem je_op {p : P2} {op : Operator} {wa wb : DE} (ho : OpD X (binaryOp op) p) (ha : JE X a wa) (hb : JE X b wb) : JE X (.BinOp a op b pos) (wOp p wa wb) :=
  pe_le (pe_op ho ha hb) fun _ _ _ _ _ _ h => op_up h
theorem je_cmp {p : P2} {op : CmpOp} {wa wb : DE} (ho : OpD X (compareOp op) p) (ha : JE X a wa) (hb : JE X b wb) (hm : behindInMarks op b = false := by rfl) : JE X (.Compare a [op] [b] pos) (wOp p wa wb) :=
  pe_le (pe_cmpR ho ha hb hm) fun _ _ _ _ _ _ h => op_up h
def wB (w : DE) : DT := fun δ R => w δ fun o δ1 => use o δ1 fun x => ∃ b, x = .bool b ∧ R b δ1
theorem dn_bool {K : PySem.W.Frag} {G : Hp} {v : V} {b : Bool} (h : Dn K G v (.bool b)) : v = .bl b := by cases h; rfl
theorem dn_int {K : PySem.W.Frag} {G : Hp} {v : V} {b : Int} (h : Dn K G v (.int b)) : v = .int b := by cases h; rfl
theorem dn_str {K : PySem.W.Frag} {G : Hp} {v : V} {b : Str} (h : Dn K G v (.str b)) : v = .str b := by cases h; rfl
theorem dn_none {K : PySem.W.Frag} {G : Hp} {v : V} (h : Dn K G v .none) : v = .non := by cases h; rfl
theorem bor_bool {K : PySem.W.Frag} {G H : Hp} {v : V} {b : Bool} (h : Bor K G H v (.bool b)) : v = .bl b := by
  rcases h with h | ⟨_, _, _, _, e, _⟩
  · exact dn_bool h
  · cases e
theorem bor_int {K : PySem.W.Frag} {G H : Hp} {v : V} {b : Int} (h : Bor K G H v (.int b)) : v = .int b := by
  rcases h with h | ⟨_, _, _, _, e, _⟩
  · exact dn_int h
  · cases e
theorem bor_str {K : PySem.W.Frag} {G H : Hp} {v : V} {b : Str} (h : Bor K G H v (.str b)) : v = .str b := by
  rcases h with h | ⟨_, _, _, _, e, _⟩
  · exact dn_str h
  · cases e
theorem bor_none {K : PySem.W.Frag} {G H : Hp} {v : V} (h : Bor K G H v .none) : v = .non := by
  rcases h with h | ⟨_, _, _, _, e, _⟩
  · exact dn_none h
  · cases e
theorem bor_tup {K : PySem.W.Frag} {G H : Hp} {v : V} {ds : List PyData} (h : Bor K G H v (.tuple ds)) : ∃ a vs, v = .ref a ∧ SqT K G a vs ∧ DnL K G vs ds := by
  rcases h with h | ⟨_, _, _, _, e, _⟩
  · cases h with | tup h t => exact ⟨_, _, rfl, h.sq, t⟩
  · cases e
theorem bor_tupS {K : PySem.W.Frag} {G H : Hp} {v : V} {ds : List PyData} (h : Bor K G H v (.tuple ds)) : ∃ a vs, v = .ref a ∧ TupAt G a vs ∧ DnL K G vs ds := by
  rcases h with h | ⟨_, _, _, _, e, _⟩
  · cases h with | tup h t => exact ⟨_, _, rfl, h, t⟩
  · cases e
theorem bor_lst {K : PySem.W.Frag} {B G H : Hp} {δ : DS} {σ : L2.St} {v : V} {ds : List PyData} (R : Rel K B G δ σ H) (h : Bor K G H v (.list ds)) : ∃ a vs, v = .ref a ∧ H a = some (.lst vs) ∧ DnL K G vs ds := by
  rcases h with h | ⟨a, vs, xs, rfl, e, q, t⟩
  · cases h with | lst h t => exact ⟨_, _, rfl, R.sg _ _ h, t⟩
  · cases e; exact ⟨a, vs, rfl, q, t⟩
theorem b_up {w : DE} {K : PySem.W.Frag} {σ : L2.St} {H : Hp} {Q : Bool → Hp → Prop} (h : upT K (wB w) σ H Q) : up K w σ H fun x H1 => ∃ c, x = .bl c ∧ Q c H1 := by
  obtain ⟨B, G, δ, R, rel, hw, k⟩ := h
  refine ⟨B, G, δ, _, rel, hw, fun v H1 G1 o1 δ1 r1 s1 rel1 ok1 => ?_⟩
  obtain ⟨x, ⟨b, rfl, q⟩, b1⟩ := use_ok rel1 ok1 r1
  exact ⟨b, bor_bool b1, k b H1 G1 _ q s1 rel1⟩
theorem jt_val {w : DE} (h : JE X e w) (he : ∀ whole, isTrue e X.env whole = (do let v ← whole; standAt e.pos; holding [v] (truthy v)) := by intro _; rfl) : JT X e (wB w) :=
  pt_le (pt_val h he) fun _ _ _ _ _ _ h => b_up h
theorem jt_cmp {p : P2} {op : CmpOp} {wa wb : DE} (ho : OpD X (compareOp op) p) (ha : JE X a wa) (hb : JE X b wb) (hm : behindInMarks op b = false := by rfl) : JT X (.Compare a [op] [b] pos) (wB (wOp p wa wb)) :=
  pt_le (pt_cmpR ho ha hb hm) fun _ _ _ _ _ _ h => by
    have h2 := b_up h
    exact op_up h2
def wChain (p q : P2) (wa wb wc : DE) : DE := fun δ R => wa δ fun o1 δ1 => wb δ1 fun o2 δ2 => use o1 δ2 fun x => use o2 δ2 fun y => p x y fun z => ∃ k, z = .bool k ∧
  if k = true then wc δ2 fun o3 δ3 => use o2 δ3 fun y => use o3 δ3 fun w => q y w fun z => R (.d z) δ3 else R (.d (.bool false)) δ2
variable {rest : List Expr}
def wAnd (t u : DT) : DT := fun δ R => t δ fun k δ1 => if k = true then u δ1 R else R false δ1
def wOr (t u : DT) : DT := fun δ R => t δ fun k δ1 => if k = true then R true δ1 else u δ1 R
def wNot (t : DT) : DT := fun δ R => t δ fun k δ1 => R (!k) δ1
theorem jw_or1 {t : DT} (h : JT X a t) : JW X (.BoolOp .Or [a] pos) t := pw_or1 h
theorem jw_or {t u : DT} (ha : JT X a t) (hb : JW X (.BoolOp .Or (b :: rest) pos) u) : JW X (.BoolOp .Or (a :: b :: rest) pos) (wOr t u) :=
  pw_le (pw_or ha hb) fun pins s σ H Q I ⟨B, G, δ, R, rel, hw, k⟩ => ⟨B, G, δ, _, rel, hw, fun c H1 G1 δ1 r1 s1 rel1 => by
    cases c with
    | false => rw [if_neg Bool.false_ne_true] at r1 ⊢; exact ⟨B, G1, δ1, _, rel1, r1, fun b H2 G2 δ2 r2 s2 rel2 => k b H2 G2 δ2 r2 (s1.trans s2) rel2⟩
    | true => rw [if_pos rfl] at r1 ⊢; exact k true H1 G1 δ1 r1 s1 rel1⟩
theorem jt_w {t : DT} (h : JW X e t) : JT X e t := PW.pt h
theorem jt_not {t : DT} (h : JT X a t) : JT X (.UnaryOp .Not a pos) (wNot t) :=
  pt_le (pt_not h) fun pins s σ H Q I ⟨B, G, δ, R, rel, hw, k⟩ => ⟨B, G, δ, _, rel, hw, fun c H1 G1 δ1 r1 s1 rel1 => k (!c) H1 G1 δ1 r1 s1 rel1⟩
def wAndV (w u : DE) : DE := fun δ R => w δ fun o δ1 => use o δ1 fun x => ∃ k, x = .bool k ∧ if k = true then u δ1 R else R (.d (.bool false)) δ1
def wOrV (w u : DE) : DE := fun δ R => w δ fun o δ1 => use o δ1 fun x => ∃ k, x = .bool k ∧ if k = true then R (.d (.bool true)) δ1 else u δ1 R
def wNotV (w : DE) : DE := fun δ R => w δ fun o δ1 => use o δ1 fun x => ∃ k, x = .bool k ∧ R (.d (.bool (!k))) δ1
def wIfE (t : DT) (wa wb : DE) : DE := fun δ R => t δ fun k δ1 => if k = true then wa δ1 R else wb δ1 R
theorem je_ifE {t : DT} {wa wb : DE} (hc : JT X c t) (ha : JE X a wa) (hb : JE X b wb) : JE X (.IfExp c a b pos) (wIfE t wa wb) :=
  pe_le (pe_ifExp hc ha hb) fun pins s σ H Q I ⟨B, G, δ, R, rel, hw, k⟩ => ⟨B, G, δ, _, rel, hw, fun d H1 G1 δ1 r1 s1 rel1 => by
    cases d with
    | true => rw [if_pos rfl] at r1 ⊢; exact ⟨B, G1, δ1, _, rel1, r1, fun b H2 G2 o2 δ2 r2 s2 rel2 ok2 => k b H2 G2 o2 δ2 r2 (s1.trans s2) rel2 ok2⟩
    | false => rw [if_neg Bool.false_ne_true] at r1 ⊢; exact ⟨B, G1, δ1, _, rel1, r1, fun b H2 G2 o2 δ2 r2 s2 rel2 ok2 => k b H2 G2 o2 δ2 r2 (s1.trans s2) rel2 ok2⟩⟩
def pNeg (x : PyData) (R : PyData → Prop) : Prop := match x with
  | .int i => R (.int (-i))
  | _ => False
def wUn (p : PyData → (PyData → Prop) → Prop) (w : DE) : DE := fun δ R => w δ fun o δ1 => use o δ1 fun x => p x fun z => R (.d z) δ1
def wTup (w : DA) : DE := fun δ R => w δ fun os δ1 => lkL os δ1 fun xs δ2 => xs.length ≤ 1000 ∧ R (.d (.tuple xs)) δ2
def wLst (w : DA) : DL := fun δ R => w δ fun os δ1 => lkL os δ1 fun xs δ2 => xs.length ≤ 1000 ∧ R xs δ2
theorem le_line {n : Nat} (h : n ≤ 1000) : n ≤ sizeLine := by rw [sizeLine_eq]; omega
theorem je_tup {w : DA} {x1} (h : JA X es w) : JE X (.Tuple es x1 pos) (wTup w) :=
  pe_le (pe_tupC h) fun pins s σ H Q I ⟨B, G, δ, R, rel, hw, k⟩ => ⟨B, G, δ, _, rel, hw, fun vs H1 G1 os δ1 r1 s1 rel1 ok1 => by
    obtain ⟨G2, δ2, xs, ⟨hl, q⟩, s2, rel2, t⟩ := lkL_ok rel1 ok1 r1
    refine ⟨by rw [t.len]; exact le_line hl, fun p o hd np => ?_⟩
    obtain ⟨rel3, s3, at3⟩ := rel2.laidT (xs := vs) np hd
    exact k _ _ _ _ _ q (s1.trans (s2.trans s3)) rel3 (Dn.tup at3 (t.mono s3))⟩
theorem jl_lst {w : DA} (h : JA X es w) : JL X (.List es pos) (wLst w) :=
  pe_le (pe_lst h) fun pins s σ H Q I ⟨B, G, δ, R, rel, hw, k⟩ => ⟨B, G, δ, _, rel, hw, fun vs H1 G1 os δ1 r1 s1 rel1 ok1 => by
    obtain ⟨G2, δ2, xs, ⟨hl, q⟩, s2, rel2, t⟩ := lkL_ok rel1 ok1 r1
    refine ⟨by rw [t.len]; exact le_line hl, fun p np => ?_⟩
    exact k p vs _ _ _ _ q (s1.trans s2) (rel2.growB np) (rel2.freeB np) t⟩
def wDic : DE := fun δ R => R (.d (.dict [])) δ
def rOfN (K : PySem.W.Frag) (p : PN) : List V → Hp → VK → Prop := fun vs H Q => ∃ B G δ σ ds R, Rel K B G δ σ H ∧ BorL K G H vs ds ∧ p ds R ∧ ∀ v H' G' z, R z → Same G G' → Rel K B G' δ σ H' → Dn K G' v z → Q v H'
abbrev CallD (X : Cx) (f : Value) (p : PN) : Prop := CallR X f (rOfN X.K p)
def wFn (p : PN) (w : DA) : DE := fun δ R => w δ fun os δ1 => useL os δ1 fun xs => p xs fun z => R (.d z) δ1
theorem fn_up {p : PN} {w : DA} {K : PySem.W.Frag} {σ : L2.St} {H : Hp} {Q : VK} (h : up K (wFn p w) σ H Q) : tCB (rOfN K p) (upA K w) σ H Q := by
  obtain ⟨B, G, δ, R, rel, hw, k⟩ := h
  refine ⟨B, G, δ, _, rel, hw, fun vs H1 G1 os δ1 r1 s1 rel1 ok1 => ?_⟩
  obtain ⟨xs, q, b⟩ := useL_ok rel1 ok1 r1
  exact ⟨B, G1, δ1, σ, xs, _, rel1, b, q, fun v H' G' z rz s2 rel2 dz => k v H' G' _ _ rz (s1.trans s2) rel2 dz⟩
theorem je_fn {p : PN} {w : DA} {id : String} {x : Str} {px : Pos} (hc : CallD X (.builtin id) p) (hg : Gl X x) (hm : X.mg x = none) (hv : bootBuiltins x = some (.builtin id)) (ha : JA X (e :: es) w) (hn : x ≠ "__name__" := by decide) (hdb : (x == ("__debug__" : Str)) = false := by decide)
    (he : starEach (e :: es) X.env = (false, eval e X.env) :: starEach es X.env := by rfl) (hpl : (backTo pos (starEach es X.env)).any (·.1) = false := by rfl) : JE X (.Call (.Name x px) (e :: es) [] pos) (wFn p w) :=
  pe_le (pe_callB hc hg hm hv ha hn hdb he hpl) fun _ _ _ _ _ _ h => fn_up h
theorem je_ty {p : PN} {w : DA} {T : String} {x : Str} {px : Pos} (hc : CallD X (.type T) p) (hg : Gl X x) (hm : X.mg x = none) (hv : bootBuiltins x = some (.type T)) (ha : JA X (e :: es) w) (hn : x ≠ "__name__" := by decide) (hdb : (x == ("__debug__" : Str)) = false := by decide)
    (he : starEach (e :: es) X.env = (false, eval e X.env) :: starEach es X.env := by rfl) (hpl : (backTo pos (starEach es X.env)).any (·.1) = false := by rfl) : JE X (.Call (.Name x px) (e :: es) [] pos) (wFn p w) :=
  pe_le (pe_callTy hc hg hm hv ha hn hdb he hpl) fun _ _ _ _ _ _ h => fn_up h
def rOfNL (K : PySem.W.Frag) (p : List PyData → (List PyData → Prop) → Prop) : List V → Hp → VK → Prop := fun vs H Q => ∃ B G δ σ ds R, Rel K B G δ σ H ∧ BorL K G H vs ds ∧ p ds R ∧ ∀ a ws H' G' z, R z → Same G G' → Rel K (upd B a (.lst ws)) G' δ σ H' → B a = none → DnL K G' ws z → Q (.ref a) H'
abbrev CallDL (X : Cx) (f : Value) (p : List PyData → (List PyData → Prop) → Prop) : Prop := CallR X f (rOfNL X.K p)
def wFnL (p : List PyData → (List PyData → Prop) → Prop) (w : DA) : DL := fun δ R => w δ fun os δ1 => useL os δ1 fun xs => p xs fun z => R z δ1
theorem fnL_up {p : List PyData → (List PyData → Prop) → Prop} {w : DA} {K : PySem.W.Frag} {σ : L2.St} {H : Hp} {Q : VK} (h : upL K (wFnL p w) σ H Q) : tCB (rOfNL K p) (upA K w) σ H Q := by
  obtain ⟨B, G, δ, R, rel, hw, k⟩ := h
  refine ⟨B, G, δ, _, rel, hw, fun vs H1 G1 os δ1 r1 s1 rel1 ok1 => ?_⟩
  obtain ⟨xs, q, b⟩ := useL_ok rel1 ok1 r1
  exact ⟨B, G1, δ1, σ, xs, _, rel1, b, q, fun a ws H' G' z rz s2 rel2 hB dz => k a ws H' G' _ _ rz (s1.trans s2) rel2 hB dz⟩
theorem jl_ty {p : List PyData → (List PyData → Prop) → Prop} {w : DA} {T : String} {x : Str} {px : Pos} (hc : CallDL X (.type T) p) (hg : Gl X x) (hm : X.mg x = none) (hv : bootBuiltins x = some (.type T)) (ha : JA X (e :: es) w) (hn : x ≠ "__name__" := by decide) (hdb : (x == ("__debug__" : Str)) = false := by decide)
    (he : starEach (e :: es) X.env = (false, eval e X.env) :: starEach es X.env := by rfl) (hpl : (backTo pos (starEach es X.env)).any (·.1) = false := by rfl) : JL X (.Call (.Name x px) (e :: es) [] pos) (wFnL p w) :=
  pe_le (pe_callTy hc hg hm hv ha hn hdb he hpl) fun _ _ _ _ _ _ h => fnL_up h
abbrev P2L := PyData → PyData → (List PyData → Prop) → Prop
def rOfL (K : PySem.W.Frag) (p : P2L) : R2 := fun x y H Q => ∃ B G δ σ dx dy R, Rel K B G δ σ H ∧ Bor K G H x dx ∧ Bor K G H y dy ∧ p dx dy R ∧ ∀ a ws H' G' z, R z → Same G G' → Rel K (upd B a (.lst ws)) G' δ σ H' → B a = none → DnL K G' ws z → Q (.ref a) H'
abbrev OpDL (X : Cx) (f : Value → Value → Sem Value) (p : P2L) : Prop := OpR X f (rOfL X.K p)
def wOpL (p : P2L) (wa wb : DE) : DL := fun δ R => wa δ fun o1 δ1 => wb δ1 fun o2 δ2 => use o1 δ2 fun x => use o2 δ2 fun y => p x y fun z => R z δ2
theorem opL_up {p : P2L} {wa wb : DE} {K : PySem.W.Frag} {σ : L2.St} {H : Hp} {Q : VK} (h : upL K (wOpL p wa wb) σ H Q) : tOp (rOfL K p) (up K wa) (up K wb) σ H Q := by
  obtain ⟨B, G, δ, R, rel, hw, k⟩ := h
  refine ⟨B, G, δ, _, rel, hw, fun v H1 G1 o1 δ1 r1 s1 rel1 ok1 => ⟨B, G1, δ1, _, rel1, r1, fun u H2 G2 o2 δ2 r2 s2 rel2 ok2 => ?_⟩⟩
  obtain ⟨x, q1, b1⟩ := use_ok rel2 (ok1.mono s2) r2
  obtain ⟨y, q2, b2⟩ := use_ok rel2 ok2 q1
  exact ⟨B, G2, δ2, σ, x, y, _, rel2, b1, b2, q2, fun a ws H' G' z rz s3 rel3 hB dz => k a ws H' G' _ _ rz (s1.trans (s2.trans s3)) rel3 hB dz⟩
theorem jl_op {p : P2L} {op : Operator} {wa wb : DE} (ho : OpDL X (binaryOp op) p) (ha : JE X a wa) (hb : JE X b wb) : JL X (.BinOp a op b pos) (wOpL p wa wb) :=
  pe_le (pe_op ho ha hb) fun _ _ _ _ _ _ h => opL_up h
abbrev IxD (X : Cx) (p : P2) : Prop := IxR X (rOf X.K p)
theorem je_ix {p : P2} {wa wb : DE} (hr : IxD X p) (ha : JE X a wa) (hb : JE X b wb) (hs : PlainIx b) : JE X (.Subscript a b pos) (wOp p wa wb) :=
  pe_le (pe_ix hr ha hb hs) fun _ _ _ _ _ _ h => op_up h
abbrev DO := DS → (Option Int → DS → Prop) → Prop
def upO (K : PySem.W.Frag) (w : DO) : TO := fun σ H Q => ∃ B G δ R, Rel K B G δ σ H ∧ w δ R ∧ ∀ i H' G' δ', R i δ' → Same G G' → Rel K B G' δ' σ H' → Q i H'
abbrev JO (X : Cx) (e : Option Expr) (w : DO) : Prop := PO X e (upO X.K w)
def wNoP : DO := fun δ R => R none δ
def wPart (w : DE) : DO := fun δ R => w δ fun o δ1 => use o δ1 fun x => ∃ i, x = .int i ∧ R (some i) δ1
theorem po_le {e : Option Expr} {t t' : TO} (h : PO X e t) (l : ∀ pins s σ H Q, Inv X pins σ H s → t' σ H Q → t σ H Q) : PO X e t' := ⟨fun pins s σ H Q I q => h.run pins s σ H Q I (l pins s σ H Q I q)⟩
theorem jo_none : JO X none wNoP := po_le po_none fun pins s σ H Q I ⟨B, G, δ, R, rel, hw, k⟩ => k none H G δ hw (Same.refl _) rel
theorem jo_some {w : DE} (h : JE X e w) : JO X (some e) (wPart w) := po_le (po_some h) fun pins s σ H Q I ⟨B, G, δ, R, rel, hw, k⟩ => ⟨B, G, δ, _, rel, hw, fun v H1 G1 o δ1 r1 s1 rel1 ok1 => by
  obtain ⟨x, ⟨i, rfl, q⟩, b⟩ := use_ok rel1 ok1 r1
  exact ⟨i, bor_int b, k _ H1 G1 δ1 q s1 rel1⟩⟩
abbrev P3 := PyData → Option Int → Option Int → (PyData → Prop) → Prop
def rOfS (K : PySem.W.Frag) (p : P3) : V → Option Int → Option Int → Hp → VK → Prop := fun x lo hi H Q => ∃ B G δ σ dx R, Rel K B G δ σ H ∧ Bor K G H x dx ∧ p dx lo hi R ∧ ∀ v H' G' z, R z → Same G G' → Rel K B G' δ σ H' → Dn K G' v z → Q v H'
def wSl (p : P3) (w : DE) (l h : DO) : DE := fun δ R => w δ fun o δ1 => l δ1 fun i δ2 => h δ2 fun j δ3 => use o δ3 fun x => p x i j fun z => R (.d z) δ3
theorem je_sl {p : P3} {w : DE} {l h : DO} {lo hi : Option Expr} {p2 : Pos} (hr : SlR X (rOfS X.K p)) (he : JE X e w) (hl : JO X lo l) (hh : JO X hi h) : JE X (.Subscript e (.Slice lo hi none p2) pos) (wSl p w l h) :=
  pe_le (pe_slice hr he hl hh) fun pins s σ H Q I ⟨B, G, δ, R, rel, hw, k⟩ => ⟨B, G, δ, _, rel, hw, fun v H1 G1 o δ1 r1 s1 rel1 ok1 => ⟨B, G1, δ1, _, rel1, r1, fun i H2 G2 δ2 r2 s2 rel2 => ⟨B, G2, δ2, _, rel2, r2, fun j H3 G3 δ3 r3 s3 rel3 => by
    obtain ⟨x, q, b⟩ := use_ok rel3 (ok1.mono (s2.trans s3)) r3
    exact ⟨B, G3, δ3, σ, x, _, rel3, b, q, fun v' H' G' z rz s4 rel4 dz => k v' H' G' _ _ rz (s1.trans (s2.trans (s3.trans s4))) rel4 dz⟩⟩⟩⟩
end
end DL
set_option Elab.async false
set_option linter.all false
set_option maxRecDepth 100000
set_option maxHeartbeats 4000000
namespace DL
open PySem PySem.Spec PyProof.Rows L2
variable [Tb]

mutual
theorem Dn.dp {K : PySem.W.Frag} {H : Hp} : ∀ (d : PyData) {v : V}, d.hasDict = false → Dn K H v d → Dp K H v d
  | .none, _, _, h => by cases h; exact .non
  | .bool b, _, _, h => by cases h; exact .bl b
  | .int i, _, _, h => by cases h; exact .int i
  | .str x, _, _, h => by cases h; exact .str x
  | .list ds, _, z, h => by cases h with | lst h t => exact .lst (SqL.of h) (DnL.dp ds (by simpa [PyData.hasDict] using z) t)
  | .tuple ds, _, z, h => by cases h with | tup h t => exact .tup h.sq (DnL.dp ds (by simpa [PyData.hasDict] using z) t)
  | .dict kvs, _, z, h => by simp [PyData.hasDict] at z
theorem DnL.dp {K : PySem.W.Frag} {H : Hp} : ∀ (ds : List PyData) {vs : List V}, PyData.hasDictAll ds = false → DnL K H vs ds → DpAll K H vs ds
  | [], _, _, h => by cases h; exact .nil
  | d :: ds, _, z, h => by
    have z' : d.hasDict = false ∧ PyData.hasDictAll ds = false := by simpa [PyData.hasDictAll] using z
    cases h with | cons a b => exact .cons (Dn.dp d z'.1 a) (DnL.dp ds z'.2 b)
end
theorem noDict_of_shaped {d : PyData} (h : SeqAt.shaped d = true) : d.hasDict = false := PyData.hasDict_of_canLay d (SeqAt.canLay_of_shaped h)

section
variable {X : Cx}
abbrev ints2 (f : Int → Int → (PyData → Prop) → Prop) : P2 := fun x y R => match x, y with
  | .int i, .int j => f i j R
  | _, _ => False
theorem opd_ints {f : Value → Value → Sem Value} {C : Int → Int → Prop} {g : Int → Int → Int} {p : Int → Int → (PyData → Prop) → Prop} (h : OpR X f (rI C fun i j => .int (g i j))) (hp : ∀ i j R, p i j R → C i j ∧ R (.int (g i j))) : OpD X f (ints2 p) := by
  intro pins s σ H x y v u Q I rx ry ⟨B, G, δ, σ', dx, dy, R, rel, bx, by', q, k⟩
  cases dx <;> cases dy <;> first | exact False.elim q | skip
  obtain ⟨c, r⟩ := hp _ _ _ q
  exact h pins s σ H x y v u Q I rx ry ⟨_, _, bor_int bx, bor_int by', c, k _ H G _ r (Same.refl _) rel (Dn.int _)⟩
theorem opd_ints0 {f : Value → Value → Sem Value} {g : Int → Int → Int} (h : OpR X f (rI0 fun i j => .int (g i j))) : OpD X f (ints2 fun i j R => R (.int (g i j))) := by
  intro pins s σ H x y v u Q I rx ry ⟨B, G, δ, σ', dx, dy, R, rel, bx, by', q, k⟩
  cases dx <;> cases dy <;> first | exact False.elim q | skip
  exact h pins s σ H x y v u Q I rx ry ⟨_, _, bor_int bx, bor_int by', k _ H G _ q (Same.refl _) rel (Dn.int _)⟩
theorem opd_bools {f : Value → Value → Sem Value} {g : Int → Int → Bool} (h : OpR X f (rI0 fun i j => .bl (g i j))) : OpD X f (ints2 fun i j R => R (.bool (g i j))) := by
  intro pins s σ H x y v u Q I rx ry ⟨B, G, δ, σ', dx, dy, R, rel, bx, by', q, k⟩
  cases dx <;> cases dy <;> first | exact False.elim q | skip
  exact h pins s σ H x y v u Q I rx ry ⟨_, _, bor_int bx, bor_int by', k _ H G _ q (Same.refl _) rel (Dn.bl _)⟩

def pSub : P2 := ints2 fun i j R => R (.int (i - j))
def pMul : P2 := fun x y R => match x, y with
  | .int i, .int j => (CMul i j ∨ CMulW i j) ∧ R (.int (i * j))
  | .list xs, .int k => 0 ≤ k ∧ xs.length * k.toNat ≤ 1000000 ∧ k < 1000000 ∧ R (.list (List.replicate k.toNat xs).flatten)
  | _, _ => False
def pDiv : P2 := ints2 fun i j R => (0 < j ∧ j.natAbs.log2 < 9000) ∧ R (.int (i / j))
def pMod : P2 := ints2 fun i j R => 0 < j ∧ R (.int (i % j))
def pPow : P2 := ints2 fun i j R => CPow i j ∧ R (.int (i ^ j.toNat))
def pShl : P2 := ints2 fun i j R => CPow i j ∧ R (.int (i * 2 ^ j.toNat))
def pAnd : P2 := ints2 fun i j R => R (.int (Builtin.bitAnd i j))
def pOr : P2 := ints2 fun i j R => R (.int (Builtin.bitOr i j))
def pLt : P2 := fun x y R => match x, y with
  | .int i, .int j => R (.bool (decide (i < j)))
  | _, _ => False
def pLe : P2 := ints2 fun i j R => R (.bool (decide (i ≤ j)))
def pGt : P2 := ints2 fun i j R => R (.bool (decide (j < i)))
def pGe : P2 := ints2 fun i j R => R (.bool (decide (j ≤ i)))
def pAdd : P2 := fun x y R => match x, y with
  | .int i, .int j => R (.int (i + j))
  | .str a, .str b => a.length + b.length ≤ 1000000 ∧ R (.str (a ++ b))
  | .tuple xs, .tuple ys => xs.length + ys.length ≤ 1000000 ∧ R (.tuple (xs ++ ys))
  | .list xs, .list ys => xs.length + ys.length ≤ 1000000 ∧ R (.list (xs ++ ys))
  | _, _ => False
theorem million {n : Nat} (h : n ≤ 1000000) : n ≤ sizeLine := by rw [sizeLine_eq]; omega
theorem d_sub : OpD X (binaryOp .Sub) pSub := opd_ints0 op_sub
theorem d_div : OpD X (binaryOp .FloorDiv) pDiv := opd_ints op_fdivW fun i j R h => h
theorem d_mod : OpD X (binaryOp .Mod) pMod := opd_ints op_mod fun i j R h => h
theorem d_pow : OpD X (binaryOp .Pow) pPow := opd_ints op_pow fun i j R h => h
theorem d_lt : OpD X (compareOp .Lt) pLt := by
  intro pins s σ H x y v u Q I rx ry ⟨B, G, δ, σ', dx, dy, R, rel, bx, by', q, k⟩
  cases dx <;> cases dy <;> first | exact False.elim q | skip
  exact op_lt pins s σ H x y v u Q I rx ry ⟨_, _, bor_int bx, bor_int by', k _ H G _ q (Same.refl _) rel (Dn.bl _)⟩
theorem d_gt : OpD X (compareOp .Gt) pGt := opd_bools op_gt
theorem d_ge : OpD X (compareOp .GtE) pGe := opd_bools op_ge
theorem DnL.nil_iff {K : PySem.W.Frag} {G : Hp} {vs : List V} {ds : List PyData} (t : DnL K G vs ds) : vs = [] ↔ ds = [] := by
  cases t with
  | nil => simp
  | cons a b => simp
theorem d_add : OpD X (binaryOp .Add) pAdd := by
  intro pins s σ H x y v u Q I rx ry ⟨B, G, δ, σ', dx, dy, R, rel, bx, by', q, k⟩
  cases dx <;> cases dy <;> first | exact False.elim q | skip
  · exact op_add pins s σ H x y v u Q I rx ry ⟨_, _, bor_int bx, bor_int by', k _ H G _ q (Same.refl _) rel (Dn.int _)⟩
  · exact op_add_str pins s σ H x y v u Q I rx ry ⟨_, _, bor_str bx, bor_str by', million q.1, k _ H G _ q.2 (Same.refl _) rel (Dn.str _)⟩
  · obtain ⟨a, xs, rfl, ha, ta⟩ := bor_lst rel bx
    obtain ⟨b, ys, rfl, hb, tb⟩ := bor_lst rel by'
    refine op_cat pins s σ H _ _ v u Q I rx ry ⟨a, b, xs, ys, rfl, rfl, ha, hb, by rw [ta.len, tb.len]; exact million q.1, fun p np => ?_⟩
    obtain ⟨rel3, s3⟩ := rel.laid (o := .lst (xs ++ ys)) np
    exact k _ _ _ _ q.2 s3 rel3 (Dn.lst upd_same ((ta.app tb).mono s3))
  · obtain ⟨a, xs, rfl, ha, ta⟩ := bor_tupS bx
    obtain ⟨b, ys, rfl, hb, tb⟩ := bor_tupS by'
    refine op_catC pins s σ H _ _ v u Q I rx ry ⟨a, b, xs, ys, rfl, rfl, sqT_mono rel.sg ha.sq, sqT_mono rel.sg hb.sq, by rw [ta.len, tb.len]; exact million q.1, fun e => ?_, fun e e2 => ?_, fun e1 e2 p o hd np => ?_⟩
    · have e' := ta.nil_iff.mp e
      subst e e'
      exact k _ H G _ q.2 (Same.refl _) rel (Dn.tup hb (by simpa using tb))
    · have e' := tb.nil_iff.mp e2
      subst e2 e'
      exact k _ H G _ q.2 (Same.refl _) rel (Dn.tup ha (by simpa using ta))
    · obtain ⟨rel3, s3, at3⟩ := rel.laidT (xs := xs ++ ys) np hd
      exact k _ _ _ _ q.2 s3 rel3 (Dn.tup at3 ((ta.app tb).mono s3))
theorem DnL.rep {K : PySem.W.Frag} {G : Hp} {vs : List V} {ds : List PyData} (t : DnL K G vs ds) : ∀ n : Nat, DnL K G (List.replicate n vs).flatten (List.replicate n ds).flatten
  | 0 => .nil
  | n + 1 => by
    rw [List.replicate_succ, List.replicate_succ, List.flatten_cons, List.flatten_cons]
    exact t.app (DnL.rep t n)
theorem d_mul : OpD X (binaryOp .Mult) pMul := by
  intro pins s σ H x y v u Q I rx ry ⟨B, G, δ, σ', dx, dy, R, rel, bx, by', q, k⟩
  cases dx <;> cases dy <;> first | exact False.elim q | skip
  · rcases q.1 with c | c
    · exact op_mul pins s σ H x y v u Q I rx ry ⟨_, _, bor_int bx, bor_int by', c, k _ H G _ q.2 (Same.refl _) rel (Dn.int _)⟩
    · exact op_mulW pins s σ H x y v u Q I rx ry ⟨_, _, bor_int bx, bor_int by', c, k _ H G _ q.2 (Same.refl _) rel (Dn.int _)⟩
  · obtain ⟨a, xs, rfl, ha, ta⟩ := bor_lst rel bx
    obtain ⟨q0, q1, q2, q3⟩ := q
    refine op_rep pins s σ H _ _ v u Q I rx ry ⟨a, _, xs, rfl, bor_int by', ha, by omega, by omega, by rw [ta.len]; exact million q1, fun p np => ?_⟩
    obtain ⟨rel3, s3⟩ := rel.laid (o := .lst _) np
    exact k _ _ _ _ q3 s3 rel3 (Dn.lst upd_same ((ta.rep _).mono s3))
def pAddL : P2L := fun x y R => match x, y with
  | .list xs, .list ys => xs.length + ys.length ≤ 1000000 ∧ R (xs ++ ys)
  | _, _ => False
theorem d_addL : OpDL X (binaryOp .Add) pAddL := by
  intro pins s σ H x y v u Q I rx ry ⟨B, G, δ, σ', dx, dy, R, rel, bx, by', q, k⟩
  cases dx <;> cases dy <;> first | exact False.elim q | skip
  obtain ⟨a, xs, rfl, ha, ta⟩ := bor_lst rel bx
  obtain ⟨b, ys, rfl, hb, tb⟩ := bor_lst rel by'
  exact op_cat pins s σ H _ _ v u Q I rx ry ⟨a, b, xs, ys, rfl, rfl, ha, hb, by rw [ta.len, tb.len]; exact million q.1, fun p np => k p _ _ G _ q.2 (Same.refl _) (rel.growB np) (rel.freeB np) (ta.app tb)⟩
def pMulL : P2L := fun x y R => match x, y with
  | .list xs, .int k => 0 ≤ k ∧ xs.length * k.toNat ≤ 1000000 ∧ k < 1000000 ∧ R (List.replicate k.toNat xs).flatten
  | _, _ => False
def sc2 : PyData → PyData → Bool
  | .int _, .int _ => true
  | .str _, .str _ => true
  | .bool _, .bool _ => true
  | .none, .none => true
  | _, _ => false
def pEq : P2 := fun x y R => (sc2 x y = true ∨ SeqAt.shaped x = true ∧ SeqAt.shaped y = true) ∧ R (.bool (PyData.eqv x y))
def pNe : P2 := fun x y R => (sc2 x y = true ∨ SeqAt.shaped x = true ∧ SeqAt.shaped y = true) ∧ R (.bool (!PyData.eqv x y))
theorem sc2_eq {K : PySem.W.Frag} {G H : Hp} {x y : V} {dx dy : PyData} (h : sc2 dx dy = true) (bx : Bor K G H x dx) (by' : Bor K G H y dy) : scal x y = true ∧ decide (x = y) = PyData.eqv dx dy := by
  cases dx <;> cases dy <;> first | exact absurd h Bool.false_ne_true | skip
  · obtain rfl := bor_none bx
    obtain rfl := bor_none by'
    exact ⟨rfl, by simp [PyData.eqv]⟩
  · obtain rfl := bor_bool bx
    obtain rfl := bor_bool by'
    refine ⟨rfl, ?_⟩
    rw [dec_bl]; simp [PyData.eqv]
  · obtain rfl := bor_int bx
    obtain rfl := bor_int by'
    refine ⟨rfl, ?_⟩
    rw [dec_int]; simp [PyData.eqv]
  · obtain rfl := bor_str bx
    obtain rfl := bor_str by'
    refine ⟨rfl, ?_⟩
    rw [dec_str]; simp [PyData.eqv]
theorem d_eq (hu : X.A.units + 64 < cLine) : OpD X (compareOp .Eq) pEq := by
  intro pins s σ H x y v u Q I rx ry ⟨B, G, δ, σ', dx, dy, R, rel, bx, by', ⟨c, q⟩, k⟩
  rcases c with c | ⟨q1, q2⟩
  · obtain ⟨h1, h2⟩ := sc2_eq c bx by'
    refine op_eq pins s σ H x y v u Q I rx ry ⟨h1, ?_⟩
    rw [h2]
    exact k _ H G _ q (Same.refl _) rel (Dn.bl _)
  · exact op_eqD hu pins s σ H x y v u Q I rx ry ⟨dx, dy, Dn.dp _ (noDict_of_shaped q1) (bx.dn rel), Dn.dp _ (noDict_of_shaped q2) (by'.dn rel), q1, q2, k _ H G _ q (Same.refl _) rel (Dn.bl _)⟩
theorem d_ne (hu : X.A.units + 64 < cLine) : OpD X (compareOp .NotEq) pNe := by
  intro pins s σ H x y v u Q I rx ry ⟨B, G, δ, σ', dx, dy, R, rel, bx, by', ⟨c, q⟩, k⟩
  rcases c with c | ⟨q1, q2⟩
  · obtain ⟨h1, h2⟩ := sc2_eq c bx by'
    refine op_ne pins s σ H x y v u Q I rx ry ⟨h1, ?_⟩
    rw [h2]
    exact k _ H G _ q (Same.refl _) rel (Dn.bl _)
  · exact op_neD hu pins s σ H x y v u Q I rx ry ⟨dx, dy, Dn.dp _ (noDict_of_shaped q1) (bx.dn rel), Dn.dp _ (noDict_of_shaped q2) (by'.dn rel), q1, q2, k _ H G _ q (Same.refl _) rel (Dn.bl _)⟩
def isNone : PyData → Bool
  | .none => true
  | _ => false
def pIs : P2 := fun x y R => match x, y with
  | x, .none => R (.bool (isNone x))
  | .bool a, .bool b => R (.bool (decide (a = b)))
  | _, _ => False
def pIsNot : P2 := fun x y R => match x, y with
  | x, .none => R (.bool (!isNone x))
  | .bool a, .bool b => R (.bool (!decide (a = b)))
  | _, _ => False
theorem dn_non {K : PySem.W.Frag} {G : Hp} {v : V} {d : PyData} (h : Dn K G v d) : decide (v = V.non) = isNone d := by
  cases h <;> rfl
theorem d_is : OpD X (compareOp .Is) pIs := by
  intro pins s σ H x y v u Q I rx ry ⟨B, G, δ, σ', dx, dy, R, rel, bx, by', q, k⟩
  cases dy with
  | none =>
    refine op_isN pins s σ H x y v u Q I rx ry ⟨bor_none by', ?_⟩
    rw [dn_non (bx.dn rel)]
    have q' : R (.bool (isNone dx)) := by cases dx <;> exact q
    exact k _ H G _ q' (Same.refl _) rel (Dn.bl _)
  | bool b =>
    cases dx <;> first | exact False.elim q | skip
    exact op_isBl pins s σ H x y v u Q I rx ry ⟨_, _, bor_bool bx, bor_bool by', k _ H G _ q (Same.refl _) rel (Dn.bl _)⟩
  | _ => cases dx <;> exact False.elim q
theorem d_isnot : OpD X (compareOp .IsNot) pIsNot := by
  intro pins s σ H x y v u Q I rx ry ⟨B, G, δ, σ', dx, dy, R, rel, bx, by', q, k⟩
  cases dy with
  | none =>
    refine op_notN pins s σ H x y v u Q I rx ry ⟨bor_none by', ?_⟩
    rw [dn_non (bx.dn rel)]
    have q' : R (.bool (!isNone dx)) := by cases dx <;> exact q
    exact k _ H G _ q' (Same.refl _) rel (Dn.bl _)
  | bool b =>
    cases dx <;> first | exact False.elim q | skip
    exact op_notBl pins s σ H x y v u Q I rx ry ⟨_, _, bor_bool bx, bor_bool by', k _ H G _ q (Same.refl _) rel (Dn.bl _)⟩
  | _ => cases dx <;> exact False.elim q
def pIn : P2 := fun x y R => match y with
  | .list ds => SeqAt.shaped x = true ∧ SeqAt.shaped (.list ds) = true ∧ R (.bool (ds.any fun z => PyData.eqv z x))
  | .tuple ds => SeqAt.shaped x = true ∧ SeqAt.shaped (.tuple ds) = true ∧ R (.bool (ds.any fun z => PyData.eqv z x))
  | .str z => ∃ c : Nat, x = .str ⟨#[c]⟩ ∧ R (.bool (decide (c ∈ z.cps.toList)))
  | _ => False
def pNotIn : P2 := fun x y R => match y with
  | .list ds => SeqAt.shaped x = true ∧ SeqAt.shaped (.list ds) = true ∧ R (.bool (!ds.any fun z => PyData.eqv z x))
  | .tuple ds => SeqAt.shaped x = true ∧ SeqAt.shaped (.tuple ds) = true ∧ R (.bool (!ds.any fun z => PyData.eqv z x))
  | .str z => ∃ c : Nat, x = .str ⟨#[c]⟩ ∧ R (.bool (!decide (c ∈ z.cps.toList)))
  | _ => False
def pIx : P2 := fun x y R => match x, y with
  | .list ds, .int i => ∃ z, atI ds i = some z ∧ R z
  | .tuple ds, .int i => ∃ z, atI ds i = some z ∧ R z
  | .str z, .int i => z.length ≤ 1000000 ∧ ∃ c, atI z.cps.toList i = some c ∧ R (.str ⟨#[c]⟩)
  | _, _ => False
theorem DnL.atI {K : PySem.W.Frag} {G : Hp} {vs : List V} {ds : List PyData} {i : Int} {z : PyData} (t : DnL K G vs ds) (h : L2.atI ds i = some z) : ∃ v, L2.atI vs i = some v ∧ Dn K G v z := by
  unfold L2.atI at h ⊢
  rw [t.len]
  cases e : ixN ds.length i with
  | none => rw [e] at h; cases h
  | some j => rw [e] at h; exact t.get h
theorem d_ix : IxD X pIx := by
  have hor := @ix_seq X
  intro ev es pins s σ H x y v u Q I rx ry ⟨B, G, δ, σ', dx, dy, R, rel, bx, by', q, k⟩ hsub
  cases dx <;> cases dy <;> first | exact False.elim q | skip
  · obtain ⟨q1, c, e, q⟩ := q
    exact hor ev es pins s σ H x y v u Q I rx ry (.inr (.inr ⟨_, _, c, bor_str bx, bor_int by', million q1, e, k _ H G _ q (Same.refl _) rel (Dn.str _)⟩)) hsub
  · obtain ⟨a, xs, rfl, ha, ta⟩ := bor_lst rel bx
    obtain ⟨z, e, q⟩ := q
    obtain ⟨w, e2, dw⟩ := ta.atI e
    exact hor ev es pins s σ H _ y v u Q I rx ry (.inl ⟨a, xs, _, w, rfl, bor_int by', SqL.of ha, e2, k _ H G _ q (Same.refl _) rel dw⟩) hsub
  · obtain ⟨a, xs, rfl, ha, ta⟩ := bor_tup bx
    obtain ⟨z, e, q⟩ := q
    obtain ⟨w, e2, dw⟩ := ta.atI e
    exact hor ev es pins s σ H _ y v u Q I rx ry (.inr (.inl ⟨a, xs, _, w, rfl, bor_int by', sqT_mono rel.sg ha, e2, k _ H G _ q (Same.refl _) rel dw⟩)) hsub
def cutD {α : Type} (xs : List α) (lo hi : Option Int) : List α := (xs.drop (HT.sIx xs.length 0 lo)).take (HT.sIx xs.length xs.length hi - HT.sIx xs.length 0 lo)
def pSl : P3 := fun x lo hi R => match x with
  | .list ds => R (.list (cutD ds lo hi))
  | .tuple ds => R (.tuple (cutD ds lo hi))
  | .str z => z.length ≤ 1000000 ∧ R (.str (cutS z lo hi))
  | _ => False
theorem DnL.cut {K : PySem.W.Frag} {G : Hp} {vs : List V} {ds : List PyData} {lo hi : Option Int} (t : DnL K G vs ds) : DnL K G (cutV vs lo hi) (cutD ds lo hi) := by
  unfold cutV cutD
  rw [t.len]
  exact (t.drop _).take _
theorem cutD_whole {α : Type} {xs : List α} {lo hi : Option Int} (h1 : HT.sIx xs.length 0 lo = 0) (h2 : HT.sIx xs.length xs.length hi = xs.length) : cutD xs lo hi = xs := by
  unfold cutD
  rw [h1, h2]; simp
theorem d_sl : SlR X (rOfS X.K pSl) := by
  intro pins s σ H x v vl vu lo hi sl Q I rx hs pl pu ⟨B, G, δ, σ', dx, R, rel, bx, q, k⟩
  cases dx with
  | list ds =>
    obtain ⟨a, xs, rfl, ha, ta⟩ := bor_lst rel bx
    refine sl_list pins s σ H _ v vl vu lo hi sl Q I rx hs pl pu ⟨a, xs, rfl, SqL.of ha, fun p np => ?_⟩
    obtain ⟨rel3, s3⟩ := rel.laid (o := .lst (cutV xs lo hi)) np
    exact k _ _ _ _ q s3 rel3 (Dn.lst upd_same (ta.cut.mono s3))
  | tuple ds =>
    obtain ⟨a, xs, rfl, ha, ta⟩ := bor_tupS bx
    refine sl_tupC pins s σ H _ v vl vu lo hi sl Q I rx hs pl pu ⟨a, xs, rfl, sqT_mono rel.sg ha.sq, fun e => ?_, fun _ p o hd np => ?_⟩
    · have q' : R (.tuple (cutD ds lo hi)) := q
      rw [cutD_whole (by rw [← ta.len]; exact e.1) (by rw [← ta.len]; exact e.2)] at q'
      exact k _ H G _ q' (Same.refl _) rel (Dn.tup ha ta)
    · obtain ⟨rel3, s3, at3⟩ := rel.laidT (xs := cutV xs lo hi) np hd
      exact k _ _ _ _ q s3 rel3 (Dn.tup at3 (ta.cut.mono s3))
  | str z => exact sl_str pins s σ H x v vl vu lo hi sl Q I rx hs pl pu ⟨z, bor_str bx, million q.1, k _ H G _ q.2 (Same.refl _) rel (Dn.str _)⟩
  | _ => exact False.elim q
end
end DL
set_option Elab.async false
set_option linter.all false
set_option maxRecDepth 100000
set_option maxHeartbeats 4000000
namespace DL
open PySem PySem.Spec PyProof.Rows L2
variable [Tb]

section
variable {X : Cx}
theorem BorL.one {K : PySem.W.Frag} {G H : Hp} {vs : List V} {d : PyData} (h : BorL K G H vs [d]) : ∃ v, vs = [v] ∧ Bor K G H v d := by
  cases h with | cons a b => cases b; exact ⟨_, rfl, a⟩
theorem BorL.two {K : PySem.W.Frag} {G H : Hp} {vs : List V} {d e : PyData} (h : BorL K G H vs [d, e]) : ∃ v u, vs = [v, u] ∧ Bor K G H v d ∧ Bor K G H u e := by
  cases h with | cons a b => obtain ⟨u, rfl, c⟩ := b.one; exact ⟨_, _, rfl, a, c⟩
abbrev one (p : PyData → (PyData → Prop) → Prop) : PN := fun xs R => match xs with
  | [x] => p x R
  | _ => False
abbrev oneL (p : PyData → (List PyData → Prop) → Prop) : List PyData → (List PyData → Prop) → Prop := fun xs R => match xs with
  | [x] => p x R
  | _ => False
abbrev two (p : PyData → PyData → (PyData → Prop) → Prop) : PN := fun xs R => match xs with
  | [x, y] => p x y R
  | _ => False
def pLen : PN := one fun x R => match x with
  | .list ds => R (.int ds.length)
  | .tuple ds => R (.int ds.length)
  | .str z => z.length ≤ 1000000 ∧ R (.int z.length)
  | _ => False
theorem c_len : CallD X (.builtin "len") pLen := by
  intro pins s σ H vs us Q I r ⟨B, G, δ, σ', ds, R, rel, b, q, k⟩
  match ds, q with
  | [d], q =>
    obtain ⟨v, rfl, bd⟩ := b.one
    cases d with
    | list xs =>
      obtain ⟨a, ws, rfl, ha, ta⟩ := bor_lst rel bd
      exact call_len pins s σ H _ us Q I r ⟨_, _, rfl, .inl ⟨ws, SqL.of ha, ta.len.symm⟩, k _ H G _ q (Same.refl _) rel (Dn.int _)⟩
    | tuple xs =>
      obtain ⟨a, ws, rfl, ha, ta⟩ := bor_tup bd
      exact call_len pins s σ H _ us Q I r ⟨_, _, rfl, .inr ⟨ws, sqT_mono rel.sg ha, ta.len.symm⟩, k _ H G _ q (Same.refl _) rel (Dn.int _)⟩
    | str z =>
      obtain rfl := bor_str bd
      exact call_len pins s σ H _ us Q I r ⟨_, _, rfl, ⟨million q.1, rfl⟩, k _ H G _ q.2 (Same.refl _) rel (Dn.int _)⟩
    | _ => exact False.elim q
def pTupOf : PN := one fun x R => match x with
  | .list ds => R (.tuple ds)
  | .tuple ds => R (.tuple ds)
  | _ => False
theorem c_tup : CallD X (.type "tuple") pTupOf := by
  intro pins s σ H vs us Q I r ⟨B, G, δ, σ', ds, R, rel, b, q, k⟩
  match ds, q with
  | [d], q =>
    obtain ⟨v, rfl, bd⟩ := b.one
    cases d with
    | list xs =>
      obtain ⟨a, ws, rfl, ha, ta⟩ := bor_lst rel bd
      refine call_tupleC pins s σ H _ us Q I r ⟨a, ws, rfl, .inl ⟨SqL.of ha, fun p o hd np => ?_⟩⟩
      obtain ⟨rel3, s3, at3⟩ := rel.laidT (xs := ws) np hd
      exact k _ _ _ _ q s3 rel3 (Dn.tup at3 (ta.mono s3))
    | tuple xs =>
      obtain ⟨a, ws, rfl, ha, ta⟩ := bor_tupS bd
      exact call_tuple_of pins s σ H _ us Q I r ⟨a, ws, rfl, .inr ⟨sqT_mono rel.sg ha.sq, k _ H G _ q (Same.refl _) rel (Dn.tup ha ta)⟩⟩
    | _ => exact False.elim q
def pLstOf : List PyData → (List PyData → Prop) → Prop := oneL fun x R => match x with
  | .list ds => R ds
  | .tuple ds => R ds
  | _ => False
theorem c_lst : CallDL X (.type "list") pLstOf := by
  intro pins s σ H vs us Q I r ⟨B, G, δ, σ', ds, R, rel, b, q, k⟩
  match ds, q with
  | [d], q =>
    obtain ⟨v, rfl, bd⟩ := b.one
    cases d with
    | list xs =>
      obtain ⟨a, ws, rfl, ha, ta⟩ := bor_lst rel bd
      exact call_list_of pins s σ H _ us Q I r ⟨a, ws, rfl, .inl (SqL.of ha), fun p np => k p ws _ G _ q (Same.refl _) (rel.growB np) (rel.freeB np) ta⟩
    | tuple xs =>
      obtain ⟨a, ws, rfl, ha, ta⟩ := bor_tup bd
      exact call_list_of pins s σ H _ us Q I r ⟨a, ws, rfl, .inr (sqT_mono rel.sg ha), fun p np => k p ws _ G _ q (Same.refl _) (rel.growB np) (rel.freeB np) ta⟩
    | _ => exact False.elim q
def pInt : PN := one fun x R => match x with
  | .int i => R (.int i)
  | .bool b => R (.int (if b then 1 else 0))
  | .str z => ∃ n, PySem.intText? z = some n ∧ z.length ≤ 640 ∧ R (.int n)
  | _ => False
theorem c_int : CallD X (.type "int") pInt := by
  intro pins s σ H vs us Q I r ⟨B, G, δ, σ', ds, R, rel, b, q, k⟩
  match ds, q with
  | [d], q =>
    obtain ⟨v, rfl, bd⟩ := b.one
    cases d with
    | int i => obtain rfl := bor_int bd; exact call_int1 pins s σ H _ us Q I r (.inl ⟨i, rfl, k _ H G _ q (Same.refl _) rel (Dn.int _)⟩)
    | bool i => obtain rfl := bor_bool bd; exact call_int1 pins s σ H _ us Q I r (.inr ⟨i, rfl, k _ H G _ q (Same.refl _) rel (Dn.int _)⟩)
    | str z =>
      obtain rfl := bor_str bd
      obtain ⟨n, q1, q2, q3⟩ := q
      exact call_int_str pins s σ H _ us Q I r ⟨z, n, rfl, q1, q2, k _ H G _ q3 (Same.refl _) rel (Dn.int _)⟩
    | _ => exact False.elim q
def pBool : PN := one fun x R => match x with
  | .int i => R (.bool (i != 0))
  | .bool b => R (.bool b)
  | _ => False
def pStr : PN := one fun x R => match x with
  | .int i => i.natAbs.log2 < 1920 ∧ R (.str (toString i))
  | .str z => R (.str z)
  | _ => False
def pAbs : PN := one fun x R => match x with
  | .int i => R (.int (if i < 0 then -i else i))
  | _ => False
theorem c_abs : CallD X (.builtin "abs") pAbs := by
  intro pins s σ H vs us Q I r ⟨B, G, δ, σ', ds, R, rel, b, q, k⟩
  match ds, q with
  | [d], q =>
    obtain ⟨v, rfl, bd⟩ := b.one
    cases d with
    | int i => obtain rfl := bor_int bd; exact call_abs pins s σ H _ us Q I r ⟨i, rfl, k _ H G _ q (Same.refl _) rel (Dn.int _)⟩
    | _ => exact False.elim q
def pMax2 : PN := two fun x y R => match x, y with
  | .int i, .int j => R (.int (if j > i then j else i))
  | _, _ => False
def pMin2 : PN := two fun x y R => match x, y with
  | .int i, .int j => R (.int (if j < i then j else i))
  | _, _ => False
def pSum : PN := one fun x R => match x with
  | .list ds => ∃ ns : List Int, ds = ns.map PyData.int ∧ R (.int ns.sum)
  | _ => False
def pMax : PN := one fun x R => match x with
  | .list ds => ∃ ns : List Int, ds = ns.map PyData.int ∧ 0 < ns.length ∧ ∀ m, m ∈ ns → (∀ y ∈ ns, y ≤ m) → R (.int m)
  | _ => False
def pMin : PN := one fun x R => match x with
  | .list ds => ∃ ns : List Int, ds = ns.map PyData.int ∧ 0 < ns.length ∧ ∀ m, m ∈ ns → (∀ y ∈ ns, m ≤ y) → R (.int m)
  | _ => False
def pAll : PN := one fun x R => match x with
  | .list ds => ∃ bs : List Bool, ds = bs.map PyData.bool ∧ R (.bool (bs.all id))
  | _ => False
def pAny : PN := one fun x R => match x with
  | .list ds => ∃ bs : List Bool, ds = bs.map PyData.bool ∧ R (.bool (bs.any id))
  | _ => False
def pRepr : PN := one fun x R => x.showable = true ∧ x.hasDict = false ∧ x.depth ≤ 60 ∧ x.shown.length ≤ 16000000 ∧ R (.str x.shown)
def tyName : PyData → String
  | .none => "NoneType" | .bool _ => "bool" | .int _ => "int" | .str _ => "str" | .list _ => "list" | .tuple _ => "tuple" | .dict [] => "dict" | .dict (_ :: _) => "object"
def isTy (T : String) (d : PyData) : Bool := tyName d == T || (T == "int" && tyName d == "bool")
def wIsi (T : String) (w : DE) : DE := fun δ R => w δ fun o δ1 => use o δ1 fun x => R (.d (.bool (isTy T x))) δ1
def wRevL (w : DE) : DE := fun δ R => w δ fun o δ1 => use o δ1 fun x => ∃ ds, x = .list ds ∧ R (.d (.list ds.reverse)) δ1
theorem je_glob {x : Str} {v : V} {u : Value} {d : PyData} {pos : Pos} (hg : Gl X x) (hm : X.mg x = some u) (r : RelV v u) (hd : ∀ K G, Dn K G v d) (hdb : (x == ("__debug__" : Str)) = false := by decide) : JE X (.Name x pos) (wC d) := je_c (pe_glob hg hm r hdb) hd
end
end DL
set_option Elab.async false
set_option linter.all false
set_option maxRecDepth 100000
set_option maxHeartbeats 4000000
namespace DL
open PySem PySem.Spec PyProof.Rows L2
variable [Tb]

def bov (B H : Hp) (l : List Addr) : Hp := fun a => if a ∈ l then H a else B a
abbrev DM := DS → (Cell → DS → Prop) → Prop
abbrev DMs := DS → (List Cell → DS → Prop) → Prop
def fps (cs : List Cell) : List Addr := cs.flatMap Cell.fp
inductive CellsOk (K : PySem.W.Frag) (G H : Hp) : List Cell → List V → Prop
  | nil : CellsOk K G H [] []
  | cons {c : Cell} {v : V} {cs : List Cell} {vs : List V} (h : CellOk K G H c (some v)) (hd : ∀ a ∈ c.fp, a ∉ fps cs) (t : CellsOk K G H cs vs) : CellsOk K G H (c :: cs) (v :: vs)
def upMs (K : PySem.W.Frag) (w : DMs) : TA := fun σ H Q => ∃ B G δ R, Rel K B G δ σ H ∧ w δ R ∧ ∀ vs H' G' cs δ', R cs δ' → Same G G' → Rel K (bov B H' (fps cs)) G' δ' σ H' → (∀ a ∈ fps cs, B a = none) → CellsOk K G' H' cs vs → Q vs H'
def upM (K : PySem.W.Frag) (w : DM) : TE := fun σ H Q => ∃ B G δ R, Rel K B G δ σ H ∧ w δ R ∧ ∀ v H' G' c δ', R c δ' → Same G G' → Rel K (bov B H' c.fp) G' δ' σ H' → (∀ a ∈ c.fp, B a = none) → CellOk K G' H' c (some v) → Q v H'
abbrev JM (X : Cx) (e : Expr) (w : DM) : Prop := PE X e (upM X.K w)
abbrev JMs (X : Cx) (es : List Expr) (w : DMs) : Prop := PA X es (upMs X.K w)
theorem bov_nil {B H : Hp} : bov B H [] = B := by funext a; simp [bov]
section
variable {X : Cx} {e : Expr} {es : List Expr} {pos : Pos}
def mE (w : DE) : DM := fun δ R => w δ fun o δ1 => lk o δ1 fun x δ2 => R (.d x) δ2
def mL (w : DL) : DM := fun δ R => w δ fun xs δ1 => ∀ a, R (.ol a xs) δ1
theorem jm_e {w : DE} (h : JE X e w) : JM X e (mE w) := pe_le h fun pins s σ H Q I ⟨B, G, δ, R, rel, hw, k⟩ => ⟨B, G, δ, _, rel, hw, fun v H1 G1 o δ1 r1 s1 rel1 ok1 => by
  obtain ⟨G2, δ2, x, q, s2, rel2, dn⟩ := lk_ok rel1 ok1 r1
  exact k v H1 G2 (.d x) δ2 q (s1.trans s2) (by show Rel X.K (bov B H1 []) G2 δ2 σ H1; rw [bov_nil]; exact rel2) (fun a m => nomatch m) ⟨v, rfl, dn⟩⟩
theorem jm_l {w : DL} (h : JL X e w) : JM X e (mL w) := pe_le h fun pins s σ H Q I ⟨B, G, δ, R, rel, hw, k⟩ => ⟨B, G, δ, _, rel, hw, fun a vs H1 G1 xs δ1 r1 s1 rel1 hB t => by
  have ha : H1 a = some (.lst vs) := rel1.sb _ _ upd_same
  have e : bov B H1 [a] = upd B a (.lst vs) := by
    funext b
    unfold bov upd
    by_cases hb : b = a
    · subst hb; simp [ha]
    · simp [hb]
  exact k (.ref a) H1 G1 (.ol a xs) δ1 (r1 a) s1 (by show Rel X.K (bov B H1 [a]) G1 δ1 σ H1; rw [e]; exact rel1) (fun b m => by rw [List.mem_singleton.mp m]; exact hB) ⟨rfl, vs, ha, t⟩⟩
def msNil : DMs := fun δ R => R [] δ
def msCons (w : DM) (r : DMs) : DMs := fun δ R => w δ fun c δ1 => r δ1 fun cs δ2 => R (c :: cs) δ2
theorem jms_nil : JMs X [] msNil := pa_le pa_nil fun pins s σ H Q I ⟨B, G, δ, R, rel, hw, k⟩ => k [] H G [] δ hw (Same.refl _) (by show Rel X.K (bov B H []) G δ σ H; rw [bov_nil]; exact rel) (fun a m => nomatch m) .nil
theorem jms_cons {w : DM} {r : DMs} (ha : JM X e w) (hr : JMs X es r) (hs : starEach (e :: es) X.env = (false, eval e X.env) :: starEach es X.env := by rfl) : JMs X (e :: es) (msCons w r) :=
  pa_le (pa_cons ha hr hs) fun pins s σ H Q I ⟨B, G, δ, R, rel, hw, k⟩ =>
    ⟨B, G, δ, _, rel, hw, fun v H1 G1 c δ1 r1 s1 rel1 hB1 ok1 => ⟨bov B H1 c.fp, G1, δ1, _, rel1, r1, fun vs H2 G2 cs δ2 r2 s2 rel2 hB2 ok2 => by
      have off : ∀ a ∈ c.fp, a ∉ fps cs := fun a m m2 => by
        have z := hB2 a m2
        unfold bov at z
        rw [if_pos m] at z
        obtain ⟨o, eo⟩ := cell_tr (K := X.K) (G := G1) ok1 m
        rw [eo] at z; cases z
      have same : ∀ a ∈ c.fp, H2 a = H1 a := fun a m => by
        obtain ⟨o, eo⟩ := cell_tr (K := X.K) (G := G1) ok1 m
        have z : bov (bov B H1 c.fp) H2 (fps cs) a = some o := by
          unfold bov
          rw [if_neg (off a m), if_pos m]; exact eo
        rw [rel2.sb _ _ z, eo]
      have eb : bov (bov B H1 c.fp) H2 (fps cs) = bov B H2 (fps (c :: cs)) := by
        funext a
        unfold bov
        by_cases h1 : a ∈ fps cs
        · have h3 : a ∈ fps (c :: cs) := by unfold fps; rw [List.flatMap_cons]; exact List.mem_append_right _ h1
          rw [if_pos h1, if_pos h3]
        · by_cases h2 : a ∈ c.fp
          · have h3 : a ∈ fps (c :: cs) := by unfold fps; rw [List.flatMap_cons]; exact List.mem_append_left _ h2
            rw [if_neg h1, if_pos h2, if_pos h3, same a h2]
          · have h3 : a ∉ fps (c :: cs) := by
              unfold fps; rw [List.flatMap_cons]; intro m
              rcases List.mem_append.mp m with m | m
              · exact h2 m
              · exact h1 m
            rw [if_neg h1, if_neg h2, if_neg h3]
      refine k (v :: vs) H2 G2 (c :: cs) δ2 r2 (s1.trans s2) (eb ▸ rel2) (fun a m => ?_) (.cons (ok1.stay s2 same) off ok2)
      unfold fps at m
      rw [List.flatMap_cons] at m
      rcases List.mem_append.mp m with m | m
      · exact hB1 a m
      · have z := hB2 a m
        unfold bov at z
        split at z
        · rename_i hm
          exact absurd m (off a hm)
        · exact z⟩⟩
end

section
variable {K : PySem.W.Frag} {B G H : Hp} {δ : DS} {σ : L2.St}
theorem Rel.store {c : Cell} {v : V} {i : Nat} {l : List Addr} (R : Rel K (bov B H (c.fp ++ l)) G δ σ H) (hB : ∀ a ∈ c.fp, B a = none) (hl : ∀ a ∈ c.fp, a ∉ l) (ok : CellOk K G H c (some v)) : Rel K (bov B H l) G (δ.set i c) (σ.set i (some v)) H := by
  have tr : ∀ a ∈ c.fp, ∃ o, H a = some o := fun a m => cell_tr ok m
  have bg : ∀ a ∈ c.fp, G a = none := fun a m => by
    rcases R.dj a with z | z
    · exact z
    · obtain ⟨o, eo⟩ := tr a m
      unfold bov at z
      rw [if_pos (List.mem_append_left _ m), eo] at z; cases z
  have bn : ∀ a ∈ c.fp, bov B H l a = none := fun a m => by
    unfold bov; rw [if_neg (hl a m)]; exact hB a m
  have sub : Same (bov B H l) H := fun a o z => by
    unfold bov at z
    split at z
    · exact z
    · by_cases m : a ∈ c.fp
      · rw [hB a m] at z; cases z
      · refine R.sb a o ?_
        unfold bov
        split
        · rename_i hm
          rcases List.mem_append.mp hm with q | q
          · exact absurd q m
          · rename_i hn; exact absurd q hn
        · exact z
  have R' : Rel K (bov B H l) G δ σ H := by
    refine ⟨R.len, R.sg, sub, fun a => ?_, R.ok, R.ap, fun i c' a e m => ?_, ⟨R.tt.t, ⟨fun a o e => ?_, R.tt.n.g⟩⟩⟩
    · rcases R.dj a with z | z
      · exact .inl z
      · by_cases m : a ∈ c.fp
        · exact .inr (bn a m)
        · refine .inr ?_
          unfold bov at z ⊢
          split
          · rename_i hm
            rw [if_pos (List.mem_append_right _ hm)] at z; exact z
          · rename_i hm
            rw [if_neg] at z
            · exact z
            · intro q
              rcases List.mem_append.mp q with q | q
              · exact m q
              · exact hm q
    · obtain ⟨f1, f2⟩ := R.fr i c' a e m
      refine ⟨f1, ?_⟩
      by_cases m2 : a ∈ c.fp
      · exact bn a m2
      · unfold bov at f2 ⊢
        split
        · rename_i hm
          rw [if_pos (List.mem_append_right _ hm)] at f2; exact f2
        · rename_i hm
          rw [if_neg] at f2
          · exact f2
          · intro q
            rcases List.mem_append.mp q with q | q
            · exact m2 q
            · exact hm q
    · unfold bov at e
      split at e
      · rename_i hm
        exact R.tt.n.b a o (by unfold bov; rw [if_pos (List.mem_append_right _ hm)]; exact e)
      · rename_i hm
        by_cases m2 : a ∈ c.fp
        · exact absurd e (by rw [hB a m2]; simp)
        · refine R.tt.n.b a o ?_
          unfold bov
          rw [if_neg fun q => (List.mem_append.mp q).elim m2 hm]
          exact e
  refine R'.set ok fun a m => ⟨⟨bg a m, bn a m⟩, fun j c' hj e m' => ?_⟩
  obtain ⟨_, f2⟩ := R.fr j c' a e m'
  obtain ⟨o, eo⟩ := tr a m
  unfold bov at f2
  rw [if_pos (List.mem_append_left _ m), eo] at f2; cases f2
end

structure DEnds where
  nx : DS → Prop
  rt : PyData → DS → Prop
  bk : DS → Prop := fun _ => False
  ct : DS → Prop := fun _ => False
abbrev DTS := DEnds → DS → Prop
structure EndsOk (K : PySem.W.Frag) (B G : Hp) (E : DEnds) (D : Ends) : Prop where
  nx : ∀ σ' H' G' δ', E.nx δ' → Same G G' → Rel K B G' δ' σ' H' → D.nx σ' H'
  rt : ∀ v σ' H' G' x δ', E.rt x δ' → Same G G' → Rel K B G' δ' σ' H' → Dn K G' v x → D.rt v H'
  bk : ∀ σ' H' G' δ', E.bk δ' → Same G G' → Rel K B G' δ' σ' H' → D.bk σ' H'
  ct : ∀ σ' H' G' δ', E.ct δ' → Same G G' → Rel K B G' δ' σ' H' → D.ct σ' H'
theorem EndsOk.mono {K : PySem.W.Frag} {B G G' : Hp} {E : DEnds} {D : Ends} (h : EndsOk K B G E D) (s : Same G G') : EndsOk K B G' E D :=
  ⟨fun σ' H' G2 δ' r s2 => h.nx σ' H' G2 δ' r (s.trans s2), fun v σ' H' G2 x δ' r s2 => h.rt v σ' H' G2 x δ' r (s.trans s2), fun σ' H' G2 δ' r s2 => h.bk σ' H' G2 δ' r (s.trans s2), fun σ' H' G2 δ' r s2 => h.ct σ' H' G2 δ' r (s.trans s2)⟩
def upS (K : PySem.W.Frag) (w : DTS) : TS := fun D σ H => ∃ B G δ E, Rel K B G δ σ H ∧ w E δ ∧ EndsOk K B G E D
abbrev JS (X : Cx) (st : Stmt) (w : DTS) : Prop := PS X st (upS X.K w)
abbrev JSs (X : Cx) (st : List Stmt) (w : DTS) : Prop := PSs X st (upS X.K w)
section
variable {X : Cx} {st : Stmt} {rest : List Stmt} {e : Expr} {pos : Pos}
theorem ps_le {t t' : TS} (h : PS X st t) (l : ∀ pins s σ H D, Inv X pins σ H s → t' D σ H → t D σ H) : PS X st t' := ⟨fun pins s σ H D I q => h.run pins s σ H D I (l pins s σ H D I q)⟩
theorem pss_le {t t' : TS} (h : PSs X rest t) (l : ∀ pins s σ H D, Inv X pins σ H s → t' D σ H → t D σ H) : PSs X rest t' := ⟨fun pins s σ H D I q => h.run pins s σ H D I (l pins s σ H D I q)⟩
def wNext : DTS := fun E δ => E.nx δ
def wSeq (t u : DTS) : DTS := fun E δ => t { E with nx := u E } δ
theorem jss_nil : JSs X [] wNext := pss_le pss_nil fun pins s σ H D I ⟨B, G, δ, E, rel, hw, k⟩ => k.nx σ H G δ hw (Same.refl _) rel
theorem jss_cons {t u : DTS} (h1 : JS X st t) (h2 : JSs X rest u) : JSs X (st :: rest) (wSeq t u) := pss_le (pss_cons h1 h2) fun pins s σ H D I ⟨B, G, δ, E, rel, hw, k⟩ =>
  ⟨B, G, δ, _, rel, hw, ⟨fun σ' H' G' δ' r s1 rel1 => ⟨B, G', δ', E, rel1, r, k.mono s1⟩, k.rt, k.bk, k.ct⟩⟩
theorem jss_one {t : DTS} (h : JS X st t) : JSs X [st] t := pss_one h
def wBrk : DTS := fun E δ => E.bk δ
def wCnt : DTS := fun E δ => E.ct δ
def wRet (w : DE) : DTS := fun E δ => w δ fun o δ1 => lk o δ1 fun x δ2 => E.rt x δ2
theorem js_ret {w : DE} (h : JE X e w) : JS X (.Return (some e) pos) (wRet w) := ps_le (ps_ret h) fun pins s σ H D I ⟨B, G, δ, E, rel, hw, k⟩ => ⟨B, G, δ, _, rel, hw, fun v H1 G1 o δ1 r1 s1 rel1 ok1 => by
  obtain ⟨G2, δ2, x, q, s2, rel2, dn⟩ := lk_ok rel1 ok1 r1
  exact k.rt v σ H1 G2 x δ2 q (s1.trans s2) rel2 dn⟩
def wRetN : DTS := fun E δ => E.rt .none δ
def wIf (c : DT) (t u : DTS) : DTS := fun E δ => c δ fun b δ1 => if b = true then t E δ1 else u E δ1
theorem js_if {c : Expr} {p q : List Stmt} {tc : DT} {t u : DTS} (hc : JT X c tc) (hp : JSs X p t) (hq : JSs X q u) : JS X (.If c p q pos) (wIf tc t u) := ps_le (ps_if hc hp hq) fun pins s σ H D I ⟨B, G, δ, E, rel, hw, k⟩ => ⟨B, G, δ, _, rel, hw, fun b H1 G1 δ1 r1 s1 rel1 => by
  cases b with
  | true => rw [if_pos rfl] at r1 ⊢; exact ⟨B, G1, δ1, E, rel1, r1, k.mono s1⟩
  | false => rw [if_neg Bool.false_ne_true] at r1 ⊢; exact ⟨B, G1, δ1, E, rel1, r1, k.mono s1⟩⟩
def wNever : DTS := fun _ _ => False
def wDrop (w : DE) : DTS := fun E δ => w δ fun _ δ1 => E.nx δ1
def wSet (i : Nat) (w : DM) : DTS := fun E δ => w δ fun c δ1 => E.nx (δ1.set i c)
theorem js_set {i : Nat} {x : Str} {w : DM} {pos' : Pos} (hN : X.N.Nodup) (hi : X.N[i]? = some x) (hx : Loc X.env.scope x) (he : JM X e w) (hs : swapsWith e (some (.Name x pos')) pos.line X.env = pure false := by rfl) (hf : X.fn x = true ∨ X.env.scope.names.lookup x = some .local := by first | exact .inl rfl | exact .inr rfl | assumption) :
    JS X (.Assign [.Name x pos'] e pos) (wSet i w) := ps_le (ps_set hN hi hx he hs hf) fun pins s σ H D I ⟨B, G, δ, E, rel, hw, k⟩ => ⟨B, G, δ, _, rel, hw, fun v H1 G1 c δ1 r1 s1 rel1 hB ok1 => by
  have R2 := Rel.store (i := i) (l := []) (by rw [List.append_nil]; exact rel1) hB (fun _ _ m => nomatch m) ok1
  rw [bov_nil] at R2
  exact k.nx _ H1 G1 _ r1 s1 R2⟩
def wPar2 (i j : Nat) (w : DMs) : DTS := fun E δ => w δ fun cs δ1 => ∃ c d, cs = [c, d] ∧ E.nx ((δ1.set i c).set j d)
theorem js_par2 {i j : Nat} {x y : Str} {a b : Expr} {w : DMs} {px py pt : Pos} {kt k2 pt2} (hc : X.calm = true) (hN : X.N.Nodup) (hi : X.N[i]? = some x) (hj : X.N[j]? = some y) (hij : i ≠ j) (hx : X.env.scope.names.lookup x = some .local) (hy : X.env.scope.names.lookup y = some .local) (ha : JMs X [a, b] w)
    (hw : swappedStores [.Tuple [.Name x px, .Name y py] kt pt] (.Tuple [a, b] k2 pt2) X.env = pure (some [x, y]) := by rfl) (hs : swapsWithSole [.Tuple [.Name x px, .Name y py] kt pt] (.Tuple [a, b] k2 pt2) pos.line X.env = pure false := by rfl) :
    JS X (.Assign [.Tuple [.Name x px, .Name y py] kt pt] (.Tuple [a, b] k2 pt2) pos) (wPar2 i j w) := ps_le (ps_par hc hN hi hj hij hx hy ha hw hs) fun pins s σ H D I ⟨B, G, δ, E, rel, hw, k⟩ => ⟨B, G, δ, _, rel, hw, fun vs H1 G1 cs δ1 r1 s1 rel1 hB ok1 => by
  obtain ⟨c, d, rfl, q⟩ := r1
  cases ok1 with
  | cons h1 d1 t1 =>
    cases t1 with
    | cons h2 d2 t2 =>
      cases t2
      rename_i v u
      refine ⟨v, u, rfl, ?_⟩
      have e : fps [c, d] = c.fp ++ (d.fp ++ []) := by simp [fps]
      rw [e] at rel1
      have R2 := Rel.store (i := i) rel1 (fun a m => hB a (by simp [fps, m])) (fun a m => by have := d1 a m; simpa [fps] using this) h1
      have R3 := Rel.store (i := j) R2 (fun a m => hB a (by simp [fps, m])) (fun a m z => nomatch z) h2
      rw [bov_nil] at R3
      exact k.nx _ H1 G1 _ q s1 R3⟩
def wAug (i : Nat) (p : P2) (w : DE) : DTS := fun E δ => ∃ x, δ[i]? = some (.d x) ∧ w δ fun o δ1 => use o δ1 fun y => p x y fun z => E.nx (δ1.set i (.d z))
end
end DL
set_option Elab.async false
set_option linter.all false
set_option maxRecDepth 100000
set_option maxHeartbeats 4000000
namespace DL
open PySem PySem.Spec PyProof.Rows L2
variable [Tb]

abbrev DTG := PyData → DS → (DS → Prop) → Prop
abbrev DTGs := List PyData → DS → (DS → Prop) → Prop
def Only (σ σ' : L2.St) (ts : List Nat) : Prop := ∀ vs : List Nat, (∀ t ∈ ts, t ∈ vs) → wipe σ' vs = wipe σ vs
theorem wipe_set {σ : L2.St} {i : Nat} {o : Option V} : ∀ {vs : List Nat}, i ∈ vs → wipe (σ.set i o) vs = wipe σ vs := by
  intro vs
  induction vs with
  | nil => intro h; cases h
  | cons v vs ih =>
    intro h
    unfold wipe
    by_cases hi : i ∈ vs
    · rw [ih hi]
    · have e : i = v := by
        rcases List.mem_cons.mp h with z | z
        · exact z
        · exact absurd z hi
      subst e
      have out : ∀ (σ : L2.St) (ws : List Nat), i ∉ ws → wipe (σ.set i o) ws = (wipe σ ws).set i o := by
        intro σ ws
        induction ws with
        | nil => intro _; rfl
        | cons w ws ih2 =>
          intro hw
          unfold wipe
          rw [ih2 (fun z => hw (List.mem_cons_of_mem _ z)), List.set_comm _ _ (fun z => hw (by rw [z]; exact List.mem_cons_self ..))]
      rw [out σ vs hi, List.set_set]
theorem Only.refl (σ : L2.St) (ts : List Nat) : Only σ σ ts := fun _ _ => rfl
theorem Only.trans {σ σ1 σ2 : L2.St} {ts us : List Nat} (a : Only σ σ1 ts) (b : Only σ1 σ2 us) : Only σ σ2 (ts ++ us) := fun vs h =>
  (b vs fun t m => h t (List.mem_append_right _ m)).trans (a vs fun t m => h t (List.mem_append_left _ m))
def upG (K : PySem.W.Frag) (ts : List Nat) (g : DTG) : TG := fun v σ H Q => ∃ B G δ x R, Rel K B G δ σ H ∧ Dn K G v x ∧ g x δ R ∧ ∀ σ' H' G' δ', R δ' → Same G G' → Rel K B G' δ' σ' H' → Only σ σ' ts → Q σ' H'
def upGs (K : PySem.W.Frag) (ts : List Nat) (g : DTGs) : TGs := fun vs σ H Q => ∃ B G δ xs R, Rel K B G δ σ H ∧ DnL K G vs xs ∧ g xs δ R ∧ ∀ σ' H' G' δ', R δ' → Same G G' → Rel K B G' δ' σ' H' → Only σ σ' ts → Q σ' H'
abbrev JG (X : Cx) (tg : Expr) (ts : List Nat) (g : DTG) : Prop := PG X tg (upG X.K ts g)
abbrev JGs (X : Cx) (tg : List Expr) (ts : List Nat) (g : DTGs) : Prop := PGs X tg (upGs X.K ts g)
def gN (i : Nat) : DTG := fun x δ R => R (δ.set i (.d x))
def gsNil : DTGs := fun xs δ R => match xs with
  | [] => R δ
  | _ => False
def gsCons (g : DTG) (r : DTGs) : DTGs := fun xs δ R => match xs with
  | x :: xs => g x δ fun δ1 => r xs δ1 R
  | [] => False
def gT (r : DTGs) : DTG := fun x δ R => match x with
  | .tuple xs => r xs δ R
  | _ => False
section
variable {X : Cx} {pos : Pos}
theorem pg_le {tg : Expr} {t t' : TG} (h : PG X tg t) (l : ∀ pins s v σ H Q, Inv X pins σ H s → t' v σ H Q → t v σ H Q) : PG X tg t' := ⟨fun pins s σ H v u Q I r q => h.run pins s σ H v u Q I r (l pins s v σ H Q I q)⟩
theorem pgs_le {tg : List Expr} {t t' : TGs} (h : PGs X tg t) (l : ∀ pins s v σ H Q, Inv X pins σ H s → t' v σ H Q → t v σ H Q) : PGs X tg t' := ⟨fun pins s σ H v u Q I r q => h.run pins s σ H v u Q I r (l pins s v σ H Q I q)⟩
theorem jg_name {i : Nat} {x : Str} (hN : X.N.Nodup) (hi : X.N[i]? = some x) (hx : Loc X.env.scope x) (hf : X.fn x = true ∨ X.env.scope.names.lookup x = some .local := by first | exact .inl rfl | exact .inr rfl | assumption) : JG X (.Name x pos) [i] (gN i) :=
  pg_le (pg_name hN hi hx hf) fun pins s v σ H Q I ⟨B, G, δ, d, R, rel, dn, hw, k⟩ => k _ H G _ hw (Same.refl _) (rel.setD dn) fun vs h => wipe_set (h i (List.mem_singleton.mpr rfl))
theorem jgs_nil : JGs X [] [] gsNil := pgs_le pgs_nil fun pins s v σ H Q I ⟨B, G, δ, d, R, rel, dn, hw, k⟩ => by
  cases dn with
  | nil => exact ⟨rfl, k σ H G δ hw (Same.refl _) rel (Only.refl _ _)⟩
  | cons a b => exact hw.elim
theorem jgs_cons {e : Expr} {es : List Expr} {ts us : List Nat} {g : DTG} {r : DTGs} (h1 : JG X e ts g) (h2 : JGs X es us r) (hs : (assignEach (e :: es) X.env).map (·.2) = assign e X.env :: (assignEach es X.env).map (·.2) := by rfl) : JGs X (e :: es) (ts ++ us) (gsCons g r) :=
  pgs_le (pgs_cons h1 h2 hs) fun pins s v σ H Q I ⟨B, G, δ, d, R, rel, dn, hw, k⟩ => by
    cases dn with
    | nil => exact hw.elim
    | cons a b => exact ⟨_, _, rfl, B, G, δ, _, _, rel, a, hw, fun σ1 H1 G1 δ1 r1 s1 rel1 o1 => ⟨B, G1, δ1, _, _, rel1, b.mono s1, r1, fun σ2 H2 G2 δ2 r2 s2 rel2 o2 => k σ2 H2 G2 δ2 r2 (s1.trans s2) rel2 (o1.trans o2)⟩⟩
theorem jg_tup {es : List Expr} {kk : Nat} {ts : List Nat} {r : DTGs} {n : Nat} (hc : X.calm = true) (h : JGs X es ts r) (hr : ∀ xs δ R, r xs δ R → xs.length = n)
    (hn : (assignEach es X.env).length = n := by rfl) (hst : (assignEach es X.env).findIdx? (·.1) = none := by rfl) : JG X (.Tuple es kk pos) ts (gT r) :=
  pg_le (pg_tup hc h hn hst) fun pins s v σ H Q I ⟨B, G, δ, d, R, rel, dn, hw, k⟩ => by
    cases dn with
    | tup hs ht => exact ⟨_, _, rfl, sqT_mono rel.sg hs.sq, by rw [ht.len]; exact hr _ _ _ hw, B, G, δ, _, R, rel, ht, hw, k⟩
    | _ => exact hw.elim
end
theorem gs_len0 : ∀ xs δ R, gsNil xs δ R → xs.length = 0 := fun xs δ R h => by
  cases xs with
  | nil => rfl
  | cons x xs => exact h.elim
theorem gs_lenN {i : Nat} {r : DTGs} {n : Nat} (h : ∀ xs δ R, r xs δ R → xs.length = n) : ∀ xs δ R, gsCons (gN i) r xs δ R → xs.length = n + 1 := fun xs δ R q => by
  cases xs with
  | nil => exact q.elim
  | cons x xs => rw [List.length_cons, h xs _ R q]
def WalkD (K : PySem.W.Frag) (J : It) (G : Hp) (xs : List PyData) : Prop := ∀ (B G2 : Hp) (δ : DS) (σ : L2.St) (H : Hp), Same G G2 → Rel K B G2 δ σ H →
  (∀ i, i < xs.length → J.go i H) ∧ J.stop xs.length H ∧ ∀ i x d H', xs[i]? = some d → J.yld i H x H' → ∃ G3, Same G2 G3 ∧ Rel K B G3 δ σ H' ∧ Dn K G3 x d
def upI (K : PySem.W.Frag) (w : DL) : TI := fun σ H R => ∃ B G δ R', Rel K B G δ σ H ∧ w δ R' ∧ ∀ J H' G' xs δ', R' xs δ' → Same G G' → Rel K B G' δ' σ H' → WalkD K J G' xs → xs.length ≤ sizeLine → R J H'
abbrev JI (X : Cx) (tg iter : Expr) (w : DL) : Prop := PI X tg iter (upI X.K w)
section
variable {X : Cx} {tg : Expr} {pos : Pos}
theorem pi_le {iter : Expr} {t t' : TI} (h : PI X tg iter t) (l : ∀ pins s σ H R, Inv X pins σ H s → t' σ H R → t σ H R) : PI X tg iter t' := ⟨fun pins s σ H R I q => h.run pins s σ H R I (l pins s σ H R I q)⟩
theorem walk_of_list {K : PySem.W.Frag} {G : Hp} {a : Addr} {vs : List V} {xs : List PyData} (h : G a = some (.lst vs)) (t : DnL K G vs xs) (inj : ∀ (B G2 : Hp) (δ : DS) (σ : L2.St) (H : Hp), Same G G2 → Rel K B G2 δ σ H → True) : WalkD K (Itl K a) G xs := fun B G2 δ σ H s rel => by
  have hH : SqL K H a vs := SqL.of (rel.sg _ _ (s _ _ h))
  have hl := t.len
  refine ⟨fun i hi => ⟨vs, vs[i]'(by omega), hH, List.getElem?_eq_getElem (by omega)⟩, ⟨vs, hH, by omega⟩, fun i x d H' hd y => ?_⟩
  obtain ⟨rfl, y⟩ := y
  obtain ⟨v, hv, dv⟩ := t.get hd
  have e := y vs hH
  rw [hv] at e; cases e
  exact ⟨G2, Same.refl _, rel, dv.mono s⟩
theorem walk_of_tup {K : PySem.W.Frag} {G : Hp} {a : Addr} {vs : List V} {xs : List PyData} (h : SqT K G a vs) (t : DnL K G vs xs) : WalkD K (Itt K a) G xs := fun B G2 δ σ H s rel => by
  have hH : SqT K H a vs := sqT_mono rel.sg (sqT_mono s h)
  have hl := t.len
  refine ⟨fun i hi => ⟨vs, vs[i]'(by omega), hH, List.getElem?_eq_getElem (by omega)⟩, ⟨vs, hH, by omega⟩, fun i x d H' hd y => ?_⟩
  obtain ⟨rfl, y⟩ := y
  obtain ⟨v, hv, dv⟩ := t.get hd
  have e := y vs hH
  rw [hv] at e; cases e
  exact ⟨G2, Same.refl _, rel, dv.mono s⟩
def iSeq (w : DE) : DL := fun δ R => w δ fun o δ1 => lk o δ1 fun x δ2 => match x with
  | .tuple xs => R xs δ2
  | .list xs => R xs δ2
  | _ => False
def iEither (K : PySem.W.Frag) (t : TE) : TI := fun σ H R => t σ H fun x H1 => ∃ a, x = .ref a ∧ ((∃ xs, SqL K H1 a xs ∧ R (Itl K a) H1) ∨ (∃ xs, SqT K H1 a xs ∧ R (Itt K a) H1))
theorem pi_either {l : Expr} {tl : TE} (hl : PE X l tl) : PI X tg l (iEither X.K tl) where
  run pins s σ H R I h := by
    refine wpAny_mono (hl.run pins s σ H _ I h) ?_ fun _ _ z => z
    rintro v ⟨hp, gs, dr, tk, os⟩ ⟨_, H1, I1, r1, a, rfl, q⟩
    cases r1
    have own : ∀ b ∈ [hp.objs.size], FpOk X pins H1 b := List.forall_mem_singleton.mpr (I1.fpOk (Nat.le_refl _) (I1.hok.fresh (Nat.le_refl _)))
    have kept : ∀ {o : Obj} b u, hp.get? b = some u → (hp.push o).get? b = some u := fun _ _ e => Heap.get?_push_of_some _ e
    rcases q with ⟨xs, isL, q⟩ | ⟨xs, isT, q⟩
    · obtain ⟨_, _, at_a, _⟩ := I1.list isL
      exact wpAny_pyIter_list at_a.isList ⟨_, _, _, _, H1, rfl, I1.kept (t' := tk) kept, turn_list a _, ⟨_, Heap.get?_push_size _ rfl, rfl, rfl⟩, own, q⟩
    · obtain ⟨its, _, at_a, _⟩ := I1.tuple isT
      exact wpAny_pyIter_tuple (show hp.IsTuple a its.toArray from at_a) ⟨_, _, _, _, H1, rfl, I1.kept (t' := tk) kept, turn_tuple a _, ⟨_, Heap.get?_push_size _ rfl, rfl, rfl⟩, own, q⟩
theorem piB {l : Expr} {w : DE} (h : JE X l w) : PE X l (fun σ H Q => up X.K w σ H fun v H1 => (∀ a xs, v = .ref a → (SqL X.K H1 a xs ∨ SqT X.K H1 a xs) → xs.length ≤ sizeLine) → Q v H1) where
  run pins s σ H Q I q := wpAny_mono (h.run pins s σ H _ I q) (fun v s1 ⟨x, H1, I1, r1, q1⟩ => ⟨x, H1, I1, r1, q1 fun a xs _ hs => hs.elim (fun z => (I1.list z).elim fun _ z => z.2.2) (fun z => (I1.tuple z).elim fun _ z => z.2.2)⟩) fun _ _ z => z
theorem ji_seq {l : Expr} {w : DE} (h : JE X l w) : JI X tg l (iSeq w) := pi_le (pi_either (piB h)) fun pins s σ H R I ⟨B, G, δ, R', rel, hw, k⟩ => ⟨B, G, δ, _, rel, hw, fun v H1 G1 o δ1 r1 s1 rel1 ok1 hz => by
  obtain ⟨G2, δ2, x, q, s2, rel2, dn⟩ := lk_ok rel1 ok1 r1
  cases dn with
  | lst hs t => exact ⟨_, rfl, .inl ⟨_, SqL.of (rel2.sg _ _ hs), k _ H1 G2 _ δ2 q (s1.trans s2) rel2 (walk_of_list hs t fun _ _ _ _ _ _ _ => trivial) (by rw [← t.len]; exact hz _ _ rfl (.inl (SqL.of (rel2.sg _ _ hs))))⟩⟩
  | tup hs t => exact ⟨_, rfl, .inr ⟨_, sqT_mono rel2.sg (hs.sq), k _ H1 G2 _ δ2 q (s1.trans s2) rel2 (walk_of_tup (hs.sq) t) (by rw [← t.len]; exact hz _ _ rfl (.inr (sqT_mono rel2.sg (hs.sq))))⟩⟩
  | _ => exact q.elim⟩
def nums (lo : Int) (n : Nat) : List PyData := (List.range n).map fun (i : Nat) => PyData.int (lo + (i : Int))
theorem walk_of_range {K : PySem.W.Frag} {G : Hp} {lo : Int} {n : Nat} : WalkD K (Itr lo n) G (nums lo n) := fun B G2 δ σ H s rel => by
  have hl : (nums lo n).length = n := by simp [nums]
  refine ⟨fun i hi => by rw [hl] at hi; exact hi, by rw [hl]; exact Nat.le_refl _, fun i x d H' hd y => ?_⟩
  obtain ⟨rfl, rfl⟩ := y
  unfold nums at hd
  rw [List.getElem?_map] at hd
  cases e : (List.range n)[i]? with
  | none => rw [e] at hd; cases hd
  | some j =>
    rw [e] at hd
    obtain ⟨h1, h2⟩ := List.getElem?_eq_some_iff.mp e
    rw [List.getElem_range] at h2
    cases hd
    subst h2
    exact ⟨G2, Same.refl _, rel, Dn.int _⟩
def iRange1 (w : DA) : DL := fun δ R => w δ fun os δ1 => useL os δ1 fun xs => ∃ j, xs = [PyData.int j] ∧ -1000000 ≤ j ∧ j ≤ 1000000 ∧ R (nums 0 j.toNat) δ1
def iRange2 (w : DA) : DL := fun δ R => w δ fun os δ1 => useL os δ1 fun xs => ∃ i j, xs = [PyData.int i, PyData.int j] ∧ (-1000000 ≤ i ∧ i ≤ 1000000 ∧ -1000000 ≤ j ∧ j ≤ 1000000) ∧ R (nums i (j - i).toNat) δ1
theorem nums_len {lo : Int} {n : Nat} : (nums lo n).length = n := by simp [nums]
theorem ji_range1 {a : Expr} {w : DA} {p : Pos} (hg : Gl X "range") (hm : X.mg "range" = none) (ha : JA X [a] w) (hs : starEach [a] X.env = [(false, eval a X.env)] := by rfl) : JI X tg (.Call (.Name "range" p) [a] [] pos) (iRange1 w) :=
  pi_le (pi_range1 hg hm ha hs) fun pins s σ H R I ⟨B, G, δ, R', rel, hw, k⟩ => ⟨B, G, δ, _, rel, hw, fun vs H1 G1 os δ1 r1 s1 rel1 ok1 => by
    obtain ⟨xs, ⟨j, rfl, h1, h2, q⟩, b⟩ := useL_ok rel1 ok1 r1
    obtain ⟨v, rfl, bv⟩ := b.one
    obtain rfl := bor_int bv
    exact ⟨j, rfl, by omega, by omega, k _ H1 G1 _ δ1 q s1 rel1 walk_of_range (by rw [nums_len, sizeLine_eq]; omega)⟩⟩
def pairsD : List PyData → List PyData → List PyData
  | x :: xs, y :: ys => .tuple [x, y] :: pairsD xs ys
  | _, _ => []
end
end DL
set_option Elab.async false
set_option linter.all false
set_option maxRecDepth 100000
set_option maxHeartbeats 4000000
namespace DL
open PySem PySem.Spec PyProof.Rows L2
variable [Tb]

def forIt (g : DTG) (b : DTS) : List PyData → DEnds → DS → Prop
  | [], E, δ => E.nx δ
  | x :: xs, E, δ => g x δ fun δ1 => b { nx := forIt g b xs E, rt := E.rt, bk := E.nx, ct := forIt g b xs E } δ1
def wFor (wi : DL) (g : DTG) (b : DTS) : DTS := fun E δ => wi δ fun xs δ1 => forIt g b xs E δ1
section
variable {X : Cx} {pos : Pos}
theorem js_for {tg iter : Expr} {body : List Stmt} {wi : DL} {g : DTG} {b : DTS} {ts : List Nat} (hp : PassesOwn (model X.prog X.w) X.A X.env X.xe) (hc : X.calm = true) (hi : JI X tg iter wi) (hg : JG X tg ts g) (hb : JSs X body b)
    (hs : ∀ x, foldedSetIterable iter X.env x = pure x := by intro _; rfl) : JS X (.For tg iter body [] pos) (wFor wi g b) := ps_le (ps_for hp hc hi hg hb hs) fun pins s σ H D I ⟨B, G, δ, E, rel, hw, k⟩ => by
  refine ⟨B, G, δ, _, rel, hw, fun J H1 G1 xs δ1 r1 s1 rel1 wk hl => ?_⟩
  refine ⟨fun i m σ' H' => m = xs.length - i ∧ i ≤ xs.length ∧ ∃ G2 δ2, Same G1 G2 ∧ Rel X.K B G2 δ2 σ' H' ∧ forIt g b (xs.drop i) E δ2, ⟨xs.length, by simp, Nat.zero_le _, G1, δ1, Same.refl _, rel1, by simpa using r1⟩, ?_⟩
  rintro i m σ2 H2 ⟨rfl, hi', G2, δ2, s2, rel2, q⟩
  obtain ⟨go, stop, yld⟩ := wk B G2 δ2 σ2 H2 s2 rel2
  by_cases hlt : i < xs.length
  · have ed : xs.drop i = xs[i] :: xs.drop (i + 1) := List.drop_eq_getElem_cons hlt
    rw [ed] at q
    refine .inr ⟨go i hlt, fun σ' H' => ∃ G3 δ3, Same G1 G3 ∧ Rel X.K B G3 δ3 σ' H' ∧ forIt g b (xs.drop (i + 1)) E δ3, fun σ' H' ⟨G3, δ3, s3, rel3, q3⟩ => ⟨xs.length - (i + 1), by omega, rfl, hlt, G3, δ3, s3, rel3, q3⟩, fun x H3 y => ?_⟩
    obtain ⟨G3, s3, rel3, dn⟩ := yld i x _ H3 (List.getElem?_eq_getElem hlt) y
    refine ⟨B, G3, δ2, _, _, rel3, dn, q, fun σ4 H4 G4 δ4 r4 s4 rel4 _ => ?_⟩
    have sa := s1.trans (s2.trans (s3.trans s4))
    exact ⟨B, G4, δ4, _, rel4, r4, ⟨fun σ' H' G5 δ5 r5 s5 rel5 => ⟨G5, δ5, s2.trans (s3.trans (s4.trans s5)), rel5, r5⟩, fun v σ' H' G5 x5 δ5 r5 s5 rel5 d5 => k.rt v σ' H' G5 x5 δ5 r5 (sa.trans s5) rel5 d5,
      fun σ' H' G5 δ5 r5 s5 rel5 => k.nx σ' H' G5 δ5 r5 (sa.trans s5) rel5, fun σ' H' G5 δ5 r5 s5 rel5 => ⟨G5, δ5, s2.trans (s3.trans (s4.trans s5)), rel5, r5⟩⟩⟩
  · have e : i = xs.length := by omega
    subst e
    rw [List.drop_length] at q
    exact .inl ⟨stop, k.nx σ2 H2 G2 δ2 q (s1.trans s2) rel2⟩
def wWhile (c : DT) (b : DTS) : DTS := fun E δ => ∃ W : Nat → DS → Prop, (∃ m, W m δ) ∧ ∀ m δ, W m δ → c δ fun k δ1 => if k = true then b { nx := fun δ' => ∃ m', m' < m ∧ W m' δ', rt := E.rt, bk := E.nx, ct := fun δ' => ∃ m', m' < m ∧ W m' δ' } δ1 else E.nx δ1
theorem js_while {c : Expr} {body : List Stmt} {tc : DT} {b : DTS} (hp : PassesOwn (model X.prog X.w) X.A X.env X.xe) (hc : JT X c tc) (hb : JSs X body b) : JS X (.While c body [] pos) (wWhile tc b) := ps_le (ps_while hp hc hb) fun pins s σ H D I ⟨B, G, δ, E, rel, ⟨W, ⟨m0, w0⟩, turn⟩, k⟩ => by
  refine ⟨fun m σ' H' => ∃ G2 δ2, Same G G2 ∧ Rel X.K B G2 δ2 σ' H' ∧ W m δ2, ⟨m0, G, δ, Same.refl _, rel, w0⟩, ?_⟩
  rintro m σ2 H2 ⟨G2, δ2, s2, rel2, q⟩
  refine ⟨B, G2, δ2, _, rel2, turn m δ2 q, fun kb H3 G3 δ3 r3 s3 rel3 => ?_⟩
  cases kb with
  | false => rw [if_neg Bool.false_ne_true] at r3 ⊢; exact k.nx σ2 H3 G3 δ3 r3 (s2.trans s3) rel3
  | true =>
    rw [if_pos rfl] at r3 ⊢
    have sa := s2.trans s3
    refine ⟨fun σ' H' => ∃ G4 δ4, Same G G4 ∧ Rel X.K B G4 δ4 σ' H' ∧ ∃ m', m' < m ∧ W m' δ4, fun σ' H' ⟨G4, δ4, s4, rel4, m', hm, w4⟩ => ⟨m', hm, G4, δ4, s4, rel4, w4⟩, B, G3, δ3, _, rel3, r3, ?_⟩
    exact ⟨fun σ' H' G5 δ5 r5 s5 rel5 => ⟨G5, δ5, sa.trans s5, rel5, r5⟩, fun v σ' H' G5 x5 δ5 r5 s5 rel5 d5 => k.rt v σ' H' G5 x5 δ5 r5 (sa.trans s5) rel5 d5, fun σ' H' G5 δ5 r5 s5 rel5 => k.nx σ' H' G5 δ5 r5 (sa.trans s5) rel5, fun σ' H' G5 δ5 r5 s5 rel5 => ⟨G5, δ5, sa.trans s5, rel5, r5⟩⟩
end

def wipeD (δ : DS) : List Nat → DS
  | [] => δ
  | v :: vs => (wipeD δ vs).set v .em
def keepC : Cell → Cell
  | .d x => .d x
  | _ => .em
def backD (δ0 δ : DS) : List Nat → DS
  | [] => δ
  | v :: vs => (backD δ0 δ vs).set v (keepC ((δ0[v]?).getD .em))
def compIt (g : DTG) (t : DT) (e : DE) (vs : List Nat) : List PyData → List PyData → DS → (List PyData → DS → Prop) → Prop
  | [], acc, δ, R => R acc δ
  | x :: xs, acc, δ, R => g x δ fun δ1 => t δ1 fun b δ2 => if b = true then e δ2 fun o δ3 => lk o δ3 fun y δ4 => compIt g t e vs xs (acc ++ [y]) (wipeD δ4 vs) R else compIt g t e vs xs acc (wipeD δ2 vs) R
def wComp (wi : DL) (g : DTG) (t : DT) (e : DE) (vs : List Nat) : DL := fun δ R => wi δ fun xs δ1 => compIt g t e vs xs [] (wipeD δ1 vs) fun ys δ2 => R ys (backD δ1 δ2 vs)
def tT : DT := fun δ R => R true δ
abbrev JTs (X : Cx) (es : List Expr) (w : DT) : Prop := PTs X es (upT X.K w)
section
variable {K : PySem.W.Frag} {B G H : Hp} {δ : DS} {σ : L2.St}
theorem Rel.wipe (R : Rel K B G δ σ H) : ∀ vs : List Nat, Rel K B G (wipeD δ vs) (L2.wipe σ vs) H
  | [] => R
  | v :: vs => (Rel.wipe R vs).clear none
theorem wipeD_em {i : Nat} : ∀ {vs : List Nat} {δ : DS}, i ∈ vs → (wipeD δ vs)[i]? = none ∨ (wipeD δ vs)[i]? = some .em
  | [], _, h => by cases h
  | v :: vs, δ, h => by
    unfold wipeD
    by_cases hv : v = i
    · subst hv
      rw [List.getElem?_set]
      simp only [if_true]
      split
      · exact .inr rfl
      · exact .inl rfl
    · rw [List.getElem?_set_ne hv]
      rcases List.mem_cons.mp h with z | z
      · exact absurd z.symm hv
      · exact wipeD_em z
theorem wipe_at {i : Nat} : ∀ {vs : List Nat} {σ : L2.St}, i ∉ vs → (L2.wipe σ vs)[i]? = σ[i]? := fun h => wipe_out h
theorem Rel.unwipe {vs : List Nat} {σ : L2.St} (R : Rel K B G (wipeD δ vs) (L2.wipe σ vs) H) : Rel K B G (wipeD δ vs) σ H := by
  refine ⟨by rw [← R.len, wipe_length], R.sg, R.sb, R.dj, fun i c o e1 e2 => ?_, R.ap, R.fr, R.tt⟩
  by_cases h : i ∈ vs
  · rcases wipeD_em (δ := δ) h with z | z
    · rw [z] at e1; cases e1
    · rw [z] at e1; cases e1; trivial
  · exact R.ok i c o e1 (by rw [wipe_at h]; exact e2)
theorem Rel.back {G0 : Hp} {δ0 : DS} {H0 : Hp} {B0 : Hp} (R : Rel K B G δ σ H) (R0 : Rel K B0 G0 δ0 σ H0) (s : Same G0 G) : ∀ vs : List Nat, Rel K B G (backD δ0 δ vs) σ H
  | [] => R
  | v :: vs => by
    have ih := Rel.back R R0 s vs
    have em : Rel K B G ((backD δ0 δ vs).set v .em) σ H := by
      cases hσ : σ[v]? with
      | some o => exact ih.recell hσ trivial fun a m => nomatch m
      | none =>
        have hl : (backD δ0 δ vs).length ≤ v := by
          rw [← ih.len]; exact List.getElem?_eq_none_iff.mp hσ
        rw [List.set_eq_of_length_le hl]; exact ih
    unfold backD
    cases e : δ0[v]? with
    | none => exact em
    | some c =>
      cases c with
      | d x =>
        obtain ⟨o, hσ, w, rfl, dn⟩ := R0.at e
        exact ih.recell hσ ⟨w, rfl, dn.mono s⟩ fun a m => nomatch m
      | _ => exact em
theorem wipe_wipe (σ : L2.St) (vs : List Nat) : L2.wipe (L2.wipe σ vs) vs = L2.wipe σ vs := by
  have h : ∀ (us : List Nat) (σ : L2.St), (∀ u ∈ us, u ∈ vs) → L2.wipe (L2.wipe σ us) vs = L2.wipe σ vs := by
    intro us
    induction us with
    | nil => intro σ _; rfl
    | cons u us ih =>
      intro σ hu
      show L2.wipe ((L2.wipe σ us).set u none) vs = _
      rw [wipe_set (hu u (List.mem_cons_self ..)), ih σ fun x m => hu x (List.mem_cons_of_mem _ m)]
  exact h vs σ fun _ m => m
end
section
variable {X : Cx} {pos : Pos}
theorem jts_nil : JTs X [] tT := ⟨fun pins s σ H Q I ⟨B, G, δ, R, rel, hw, k⟩ => pts_nil.run pins s σ H Q I (k true H G δ hw (Same.refl _) rel)⟩
theorem jts_one {c : Expr} {t : DT} (h : JT X c t) : JTs X [c] t := pts_one h
theorem comp_up {wi : DL} {g : DTG} {t : DT} {e : DE} {ts vs : List Nat} {K : PySem.W.Frag} {σ : L2.St} {H : Hp} {Q : VK} (hts : ∀ t ∈ ts, t ∈ vs) (h : upL K (wComp wi g t e vs) σ H Q) : tLc (upI K wi) (upG K ts g) (upT K t) (up K e) vs σ H Q := by
  obtain ⟨B, G, δ, R, rel, hw, k⟩ := h
  refine ⟨B, G, δ, _, rel, hw, fun J H1 G1 xs δ1 r1 s1 rel1 wk hl D nD => ?_⟩
  have bD := rel1.freeB nD
  refine ⟨fun i m H' => m = xs.length - i ∧ i ≤ xs.length ∧ ∃ accV accD G2 δ2, Same G1 G2 ∧ Rel K (upd B D (.lst accV)) G2 (wipeD δ2 vs) (wipe σ vs) H' ∧ DnL K G2 accV accD ∧ accV.length ≤ i ∧ compIt g t e vs (xs.drop i) accD (wipeD δ2 vs) (fun ys δ2 => R ys (backD δ1 δ2 vs)),
    ⟨xs.length, by simp, Nat.zero_le _, [], [], G1, δ1, Same.refl _, (rel1.growB nD).wipe vs, .nil, Nat.zero_le _, by simpa using r1⟩, ?_⟩
  rintro i m H2 ⟨rfl, hi, accV, accD, G2, δ2, s2, rel2, dacc, hal, q⟩
  obtain ⟨go, stop, yld⟩ := wk _ G2 _ _ H2 s2 rel2
  by_cases hlt : i < xs.length
  · have ed : xs.drop i = xs[i] :: xs.drop (i + 1) := List.drop_eq_getElem_cons hlt
    rw [ed] at q
    refine .inr ⟨go i hlt, fun H' => ∃ accV accD G3 δ3, Same G1 G3 ∧ Rel K (upd B D (.lst accV)) G3 (wipeD δ3 vs) (wipe σ vs) H' ∧ DnL K G3 accV accD ∧ accV.length ≤ i + 1 ∧ compIt g t e vs (xs.drop (i + 1)) accD (wipeD δ3 vs) (fun ys δ2 => R ys (backD δ1 δ2 vs)),
      fun H' ⟨a1, a2, a3, a4, a5, a6, a7, a8, a9⟩ => ⟨xs.length - (i + 1), by omega, rfl, hlt, a1, a2, a3, a4, a5, a6, a7, a8, a9⟩, fun x H3 y => ?_⟩
    obtain ⟨G3, s3, rel3, dn⟩ := yld i x _ H3 (List.getElem?_eq_getElem hlt) y
    refine ⟨_, G3, _, _, _, rel3, dn, q, fun σ4 H4 G4 δ4 r4 s4 rel4 ho => ?_⟩
    have ew : wipe σ4 vs = wipe σ vs := by rw [ho vs hts, wipe_wipe]
    refine ⟨ew, _, G4, δ4, _, rel4, r4, fun b H5 G5 δ5 r5 s5 rel5 => ?_⟩
    cases b with
    | false =>
      rw [if_neg Bool.false_ne_true] at r5 ⊢
      have R6 := rel5.wipe vs
      rw [ew] at R6
      exact ⟨accV, accD, G5, δ5, s2.trans (s3.trans (s4.trans s5)), R6, DnL.mono (s3.trans (s4.trans s5)) _ dacc, by omega, r5⟩
    | true =>
      rw [if_pos rfl] at r5 ⊢
      refine ⟨_, G5, δ5, _, rel5, r5, fun v H6 G6 o δ6 r6 s6 rel6 ok6 => ?_⟩
      obtain ⟨G7, δ7, z, q7, s7, rel7, dz⟩ := lk_ok rel6 ok6 r6
      refine ⟨accV, rel7.sb _ _ upd_same, by omega, accV ++ [v], accD ++ [z], G7, δ7, s2.trans (s3.trans (s4.trans (s5.trans (s6.trans s7)))), ?_, (DnL.mono (s3.trans (s4.trans (s5.trans (s6.trans s7)))) _ dacc).app (.cons dz .nil), by simp; omega, q7⟩
      have R8 := (rel7.putB (p := D) (o := .lst (accV ++ [v])) upd_same notTE_lst).wipe vs
      rw [upd_upd, ew] at R8
      exact R8
  · have e1 : i = xs.length := by omega
    subst e1
    rw [List.drop_length] at q
    refine .inl ⟨stop, ?_⟩
    exact k D accV H2 G2 accD _ q (s1.trans s2) (rel2.unwipe.back rel1 s2 vs) bD dacc
theorem jl_comp {elt tg iter : Expr} {ifs : List Expr} {scope : Scope} {own : List (Str × Nat)} {wi : DL} {g : DTG} {t : DT} {e : DE} {ts : List Nat} (hc : X.calm = true) (hN : X.N.Nodup) (hi : JI X tg iter wi) (ok : BlkOk X.N X.env.scope scope own) (hts : ∀ t ∈ ts, t ∈ own.map (·.2))
    (hg : ∀ (s : Shared) (H : Hp) (C : Addr) (cl : List (Str × Addr)) (fp : List Addr), JG (X.blk s H scope (compEnvC scope cl C X.env) fp) tg ts g) (ht : ∀ (s : Shared) (H : Hp) (C : Addr) (cl : List (Str × Addr)) (fp : List Addr), JTs (X.blk s H scope (compEnvC scope cl C X.env) fp) ifs t)
    (he : ∀ (s : Shared) (H : Hp) (C : Addr) (cl : List (Str × Addr)) (fp : List Addr), JE (X.blk s H scope (compEnvC scope cl C X.env) fp) elt e) (hs : ∀ x, foldedSetIterable iter X.env x = pure x := by intro _; rfl) :
    JL X (.ListComp elt [⟨tg, iter, ifs, 0⟩] scope pos) (wComp wi g t e (own.map (·.2))) :=
  pe_le (pe_lc hc hN hi ok hg ht he hs) fun _ _ _ _ _ _ h => comp_up hts h
theorem upM_l {w : DL} {K : PySem.W.Frag} {σ : L2.St} {H : Hp} {Q : VK} (h : upM K (mL w) σ H Q) : upL K w σ H Q := by
  obtain ⟨B, G, δ, R, rel, hw, k⟩ := h
  refine ⟨B, G, δ, _, rel, hw, fun a vs H1 G1 xs δ1 r1 s1 rel1 hB t => ?_⟩
  have ha : H1 a = some (.lst vs) := rel1.sb _ _ upd_same
  have e : bov B H1 [a] = upd B a (.lst vs) := by
    funext b
    unfold bov upd
    by_cases hb : b = a
    · subst hb; simp [ha]
    · simp [hb]
  exact k (.ref a) H1 G1 (.ol a xs) δ1 (r1 a) s1 (by show Rel K (bov B H1 [a]) G1 δ1 σ H1; rw [e]; exact rel1) (fun b m => by rw [List.mem_singleton.mp m]; exact hB) ⟨rfl, vs, ha, t⟩
theorem up_l {w : DL} {K : PySem.W.Frag} {σ : L2.St} {H : Hp} {Q : VK} (h : up K (wOfL w) σ H Q) : upL K w σ H Q := by
  obtain ⟨B, G, δ, R, rel, hw, k⟩ := h
  refine ⟨B, G, δ, _, rel, hw, fun a vs H' G' xs δ' r sG rel' hB t => ?_⟩
  obtain ⟨rel2, s2⟩ := rel'.takeB (p := a) hB (fun b hb => (upd_ne hb).symm) upd_same
  exact k _ H' _ _ _ r (sG.trans s2) rel2 (Dn.lst upd_same (t.mono s2))
theorem upM_e {w : DE} {K : PySem.W.Frag} {σ : L2.St} {H : Hp} {Q : VK} (h : upM K (mE w) σ H Q) : up K w σ H Q := by
  obtain ⟨B, G, δ, R, rel, hw, k⟩ := h
  refine ⟨B, G, δ, _, rel, hw, fun v H1 G1 o δ1 r1 s1 rel1 ok1 => ?_⟩
  obtain ⟨G2, δ2, x, q, s2, rel2, dn⟩ := lk_ok rel1 ok1 r1
  exact k v H1 G2 (.d x) δ2 q (s1.trans s2) (by show Rel K (bov B H1 []) G2 δ2 σ H1; rw [bov_nil]; exact rel2) (fun a m => nomatch m) ⟨v, rfl, dn⟩
theorem js_asg {st : Stmt} {i : Nat} {te : TE} {w : DM} (h : PS X st (tAsg te (gName i))) (l : ∀ σ H Q, upM X.K w σ H Q → te σ H Q) : JS X st (wSet i w) := ps_le h fun pins s σ H D I ⟨B, G, δ, E, rel, hw, k⟩ => by
  refine l σ H _ ⟨B, G, δ, _, rel, hw, fun v H1 G1 c δ1 r1 s1 rel1 hB ok1 => ?_⟩
  have R2 := Rel.store (i := i) (l := []) (by rw [List.append_nil]; exact rel1) hB (fun _ _ m => nomatch m) ok1
  rw [bov_nil] at R2
  exact k.nx _ H1 G1 _ r1 s1 R2
theorem js_setCL {i : Nat} {y : Str} {py spos : Pos} {elt tg iter : Expr} {ifs : List Expr} {scope : Scope} {own : List (Str × Nat)} {wi : DL} {g : DTG} {t : DT} {e : DE} {ts : List Nat} (hc : X.calm = true) (hN : X.N.Nodup) (hy : X.N[i]? = some y) (hyl : X.env.scope.names.lookup y = some .local)
    (hsw : swapsWith (.ListComp elt [⟨tg, iter, ifs, 0⟩] scope pos) (some (.Name y py)) spos.line X.env = pure true) (hi : JI X tg iter wi) (ok : BlkOk X.N X.env.scope scope own) (hts : ∀ t ∈ ts, t ∈ own.map (·.2))
    (hg : ∀ (s : Shared) (H : Hp) (C : Addr) (cl : List (Str × Addr)) (fp : List Addr), JG (X.blk s H scope (compEnvC scope cl C X.env) fp) tg ts g) (ht : ∀ (s : Shared) (H : Hp) (C : Addr) (cl : List (Str × Addr)) (fp : List Addr), JTs (X.blk s H scope (compEnvC scope cl C X.env) fp) ifs t)
    (he : ∀ (s : Shared) (H : Hp) (C : Addr) (cl : List (Str × Addr)) (fp : List Addr), JE (X.blk s H scope (compEnvC scope cl C X.env) fp) elt e) (hs : ∀ x, foldedSetIterable iter X.env x = pure x := by intro _; rfl) :
    JS X (.Assign [.Name y py] (.ListComp elt [⟨tg, iter, ifs, 0⟩] scope pos) spos) (wSet i (mL (wComp wi g t e (own.map (·.2))))) :=
  js_asg (ps_setLc hc hN hy hyl hsw hi ok hg ht he hs) fun σ H Q h => comp_up hts (upM_l h)
theorem js_setCE {i : Nat} {y : Str} {py spos : Pos} {elt tg iter : Expr} {ifs : List Expr} {scope : Scope} {own : List (Str × Nat)} {wi : DL} {g : DTG} {t : DT} {e : DE} {ts : List Nat} (hc : X.calm = true) (hN : X.N.Nodup) (hy : X.N[i]? = some y) (hyl : X.env.scope.names.lookup y = some .local)
    (hsw : swapsWith (.ListComp elt [⟨tg, iter, ifs, 0⟩] scope pos) (some (.Name y py)) spos.line X.env = pure true) (hi : JI X tg iter wi) (ok : BlkOk X.N X.env.scope scope own) (hts : ∀ t ∈ ts, t ∈ own.map (·.2))
    (hg : ∀ (s : Shared) (H : Hp) (C : Addr) (cl : List (Str × Addr)) (fp : List Addr), JG (X.blk s H scope (compEnvC scope cl C X.env) fp) tg ts g) (ht : ∀ (s : Shared) (H : Hp) (C : Addr) (cl : List (Str × Addr)) (fp : List Addr), JTs (X.blk s H scope (compEnvC scope cl C X.env) fp) ifs t)
    (he : ∀ (s : Shared) (H : Hp) (C : Addr) (cl : List (Str × Addr)) (fp : List Addr), JE (X.blk s H scope (compEnvC scope cl C X.env) fp) elt e) (hs : ∀ x, foldedSetIterable iter X.env x = pure x := by intro _; rfl) :
    JS X (.Assign [.Name y py] (.ListComp elt [⟨tg, iter, ifs, 0⟩] scope pos) spos) (wSet i (mE (wOfL (wComp wi g t e (own.map (·.2)))))) :=
  js_asg (ps_setLc hc hN hy hyl hsw hi ok hg ht he hs) fun σ H Q h => comp_up hts (up_l (upM_e h))
def isOl (δ : DS) (i : Nat) : Prop := ∃ a xs, δ[i]? = some (.ol a xs)
def wAppend (i : Nat) (w : DE) : DTS := fun E δ => isOl δ i ∧ w δ fun o δ1 => lk o δ1 fun y δ2 => match δ2[i]? with
  | some (.ol a xs) => xs.length ≤ 1000000 ∧ E.nx (δ2.set i (.ol a (xs ++ [y])))
  | _ => False
theorem js_append {i : Nat} {e : Expr} {x : Str} {w : DE} {px apos cpos : Pos} (hx : PE X (.Name x px) (tVar i)) (he : JE X e w) (hs : swapsWith (.Call (.Attribute (.Name x px) "append" apos) [e] [] cpos) none pos.line X.env = pure false := by rfl) (hsE : starEach [e] X.env = (false, eval e X.env) :: starEach [] X.env := by rfl)
    (hb : PE X (.Call (.Attribute (.Name x px) "append" apos) [e] [] cpos) (tBM X.K "list" rAppend (tVar i) (tCons (up X.K w) tNil))) : JS X (.Expr (.Call (.Attribute (.Name x px) "append" apos) [e] [] cpos) pos) (wAppend i w) :=
  ps_le (ps_expr hb hs) fun pins s σ H D I ⟨B, G, δ, E, rel, ⟨⟨a, xs, hδ⟩, hw⟩, k⟩ => by
    obtain ⟨o, hσ, rfl, vs, ha, t⟩ := rel.at hδ
    refine ⟨.ref a, hσ, .inl ⟨rfl, _, SqL.of ha⟩, B, G, δ, _, rel, hw, fun v H1 G1 o δ1 r1 s1 rel1 ok1 => ?_⟩
    obtain ⟨G2, δ2, y, q, s2, rel2, dn⟩ := lk_ok rel1 ok1 r1
    cases e2 : δ2[i]? with
    | none => rw [e2] at q; exact q.elim
    | some c =>
      rw [e2] at q
      cases c with
      | ol b ys =>
        obtain ⟨o2, hσ2, e3, ws, hb, t2⟩ := rel2.at e2
        rw [hσ] at hσ2
        cases hσ2
        cases e3
        obtain ⟨q1, q2⟩ := q
        refine ⟨a, ws, v, rfl, rfl, hb, by rw [t2.len, sizeLine_eq]; omega, ?_⟩
        exact k.nx _ _ G2 _ q2 (s1.trans s2) (rel2.write e2 (t2.app (.cons dn .nil)))
      | _ => exact q.elim
def wExtend (i : Nat) (w : DE) : DTS := fun E δ => isOl δ i ∧ w δ fun o δ1 => use o δ1 fun y => ∃ ys, y = .list ys ∧ match δ1[i]? with
  | some (.ol a xs) => xs.length + ys.length ≤ 1000000 ∧ E.nx (δ1.set i (.ol a (xs ++ ys)))
  | _ => False
theorem js_extend {i : Nat} {e : Expr} {x : Str} {w : DE} {px apos cpos : Pos} (hx : PE X (.Name x px) (tVar i)) (he : JE X e w) (hs : swapsWith (.Call (.Attribute (.Name x px) "extend" apos) [e] [] cpos) none pos.line X.env = pure false := by rfl) (hsE : starEach [e] X.env = (false, eval e X.env) :: starEach [] X.env := by rfl)
    (hb : PE X (.Call (.Attribute (.Name x px) "extend" apos) [e] [] cpos) (tBM X.K "list" rExtend (tVar i) (tCons (up X.K w) tNil))) : JS X (.Expr (.Call (.Attribute (.Name x px) "extend" apos) [e] [] cpos) pos) (wExtend i w) :=
  ps_le (ps_expr hb hs) fun pins s σ H D I ⟨B, G, δ, E, rel, ⟨⟨a, xs, hδ⟩, hw⟩, k⟩ => by
    obtain ⟨o, hσ, rfl, vs, ha, t⟩ := rel.at hδ
    refine ⟨.ref a, hσ, .inl ⟨rfl, _, SqL.of ha⟩, B, G, δ, _, rel, hw, fun v H1 G1 o δ1 r1 s1 rel1 ok1 => ?_⟩
    obtain ⟨y, ⟨ys, rfl, q⟩, by'⟩ := use_ok rel1 ok1 r1
    obtain ⟨b, zs, rfl, hb, tb⟩ := bor_lst rel1 by'
    cases e2 : δ1[i]? with
    | none => rw [e2] at q; exact q.elim
    | some c =>
      rw [e2] at q
      cases c with
      | ol a' ws =>
        obtain ⟨o2, hσ2, e3, us, hu, t2⟩ := rel1.at e2
        rw [hσ] at hσ2
        cases hσ2
        cases e3
        obtain ⟨q1, q2⟩ := q
        refine ⟨a, b, us, zs, rfl, rfl, hu, hb, by rw [t2.len, tb.len]; exact million q1, ?_⟩
        exact k.nx _ _ G1 _ q2 s1 (rel1.write e2 (t2.app tb))
      | _ => exact q.elim
def wPut (i : Nat) (we wi : DE) : DTS := fun E δ => we δ fun o δ1 => lk o δ1 fun y δ2 => isOl δ2 i ∧ wi δ2 fun oj δ3 => use oj δ3 fun j => match j, δ3[i]? with
  | .int j, some (.ol a xs) => ∃ n, ixN xs.length j = some n ∧ E.nx (δ3.set i (.ol a (xs.set n y)))
  | _, _ => False
theorem js_put {i : Nat} {e j : Expr} {x : Str} {we wi : DE} {px apos : Pos} (hj : JE X j wi) (he : JE X e we)
    (hb : PS X (.Assign [.Subscript (.Name x px) j apos] e pos) (tAsg (up X.K we) (gSub (tVar i) (up X.K wi) rSetL))) : JS X (.Assign [.Subscript (.Name x px) j apos] e pos) (wPut i we wi) :=
  ps_le hb fun pins s σ H D I ⟨B, G, δ, E, rel, hw, k⟩ => ⟨B, G, δ, _, rel, hw, fun v H1 G1 o δ1 r1 s1 rel1 ok1 => by
    obtain ⟨G2, δ2, y, q, s2, rel2, dn⟩ := lk_ok rel1 ok1 r1
    obtain ⟨⟨a, xs, hδ⟩, q⟩ := q
    obtain ⟨o0, hσ, rfl, vs, ha, t⟩ := rel2.at hδ
    refine ⟨.ref a, hσ, B, G2, δ2, _, rel2, q, fun u H3 G3 oj δ3 r3 s3 rel3 ok3 => ?_⟩
    obtain ⟨jd, q3, bj⟩ := use_ok rel3 ok3 r3
    cases jd with
    | int jn =>
      cases e2 : δ3[i]? with
      | none => rw [e2] at q3; exact q3.elim
      | some c =>
        rw [e2] at q3
        cases c with
        | ol a' ws =>
          obtain ⟨o2, hσ2, e3, us, hu, t2⟩ := rel3.at e2
          rw [hσ] at hσ2
          cases hσ2
          cases e3
          obtain ⟨n, hn, q4⟩ := q3
          refine ⟨a, us, jn, n, rfl, bor_int bj, hu, by rw [t2.len]; exact hn, ?_⟩
          exact k.nx _ _ G3 _ q4 (s1.trans (s2.trans s3)) (rel3.write e2 (DnL.set (dn.mono s3) n t2))
        | _ => exact q3.elim
    | _ => exact q3.elim⟩
def wPop (i : Nat) : DE := fun δ R => match δ[i]? with
  | some (.ol a xs) => ∃ y, xs.getLast? = some y ∧ R (.d y) (δ.set i (.ol a xs.dropLast))
  | _ => False
end
end DL
set_option Elab.async false
set_option linter.all false
set_option maxRecDepth 100000
set_option maxHeartbeats 4000000
namespace DL
open PySem PySem.Spec PyProof.Rows L2
variable [Tb]

structure RoomG (k : Nat) (A : Around) : Prop where
  rm : Room k A
  gd : A.guards = some []
theorem RoomG.mono {j k : Nat} {A : Around} (r : RoomG k A) (h : j ≤ k) : RoomG j A := ⟨r.rm.mono h, r.gd⟩
theorem RoomG.deeper {k : Nat} {A : Around} (r : RoomG (k + 1) A) (env : Env) : RoomG k (A.deeper env) := ⟨r.rm.deeper env, r.gd⟩
theorem RoomG.u64 {k : Nat} {A : Around} (r : RoomG k A) : A.units + 64 < cLine := r.rm.units
structure FnG (P : Program) (w : World) (K : PySem.W.Frag) (mg : Str → Option Value) (base : Heap) (CX : CXT) (k : Nat) (f : Addr) (fd : FuncData) (ps : List Str) (sp : Sp) : Prop where
  len (vs : List V) (H : Hp) (Q : VK) (E : XK) (_ : sp vs H Q E) : vs.length = ps.length
  run : ∀ (A : Around) (outer : List Env) (s : Shared) (H : Hp) (args : Args) (us : List Value) (vs : List V) (Q : VK) (E : XK), RoomG k A → Env0 P w K mg base A outer s H →
    BindsTo s fd args (ps.zip us) → Vals vs us → sp vs H Q E → codeAny (model P w) A (.call (.ref f) args) (CR CX outer P w H s Q E) s
section
variable {P : Program} {w : World} {K : PySem.W.Frag} {mg : Str → Option Value} {base : Heap} {CX : CXT}
theorem FnG.mono {j k : Nat} {f : Addr} {fd : FuncData} {ps : List Str} {sp : Sp} (F : FnG P w K mg base CX j f fd ps sp) (h : j ≤ k) : FnG P w K mg base CX k f fd ps sp :=
  ⟨F.len, fun A outer s H args us vs Q E hr => F.run A outer s H args us vs Q E (hr.mono h)⟩
theorem fnG_of {k : Nat} {f : Addr} {name qual : Str} {params : Arguments} {body : List Stmt} {scope : Scope} {dV kV doc pm cdv ct oc : Value} {an od : Option Addr} {osl : Array (Option Value)} {N ps : List Str} {sp : Sp}
    (lk : K.lookup f = some ⟨oc, od, .func (PySem.W.fnOf name qual params body scope dV kV doc pm an cdv ct), osl⟩) (hcd : PySem.W.codeIn K cdv qual = true) (S : FnScope N ps scope) (len : ∀ vs H Q E, sp vs H Q E → vs.length = ps.length)
    (hbody : ∀ (A : Around) (outer : List Env) (s : Shared) (H : Hp) (vs : List V) (Q : VK) (E : XK), RoomG k (A.deeper (envOfC qual scope s.heap.objs.size f cdv)) → sp vs H Q E →
      ∃ t, PSs (cxOf CX P w K mg base N qual scope f cdv A outer s H E) body t ∧ t { nx := fun _ H' => Q .non H', rt := Q } (L2.start N vs) H) : FnG P w K mg base CX (k + 1) f (PySem.W.fnOf name qual params body scope dV kV doc pm an cdv ct) ps sp := by
  refine ⟨len, ?_⟩
  intro A outer s H args us vs Q E room e0 binds r hsp
  have many : vs.length = ps.length := len _ _ _ _ hsp
  have kept : ∀ b o, base.get? b = some o → s.heap.get? b = some o := fun b o e => (e0.bs b o e).1
  have kinds : ∀ y ∈ ps.zip us, scope.names.lookup y.1 = some .local ∨
      (scope.names.lookup y.1 = some .cell ∧ ((cellsFrom (s.heap.objs.size + 1) scope.names []).lookup y.1).isSome = true) := by
    rintro ⟨n, v⟩ m
    rcases S.par n (List.of_mem_zip m).1 with q | q
    · exact .inl q
    · exact .inr ⟨q, PySem.W.cellsFrom_some _ _ _ (.inl q)⟩
  have kin := e0.mod.kin.keeps kept
  refine codeAny_call_function room.rm.depth (kin _ _ lk) rfl S.co S.gen rfl (PySem.W.codeRec_of kin hcd) (binds _ _ _ _ (wpAny_newFunctionEnv_cells S.kind kinds ?_))
  rintro _ rfl s1 made
  obtain ⟨t, body', ht⟩ := hbody A outer s H vs Q E (room.deeper _) hsp
  refine ⟨(e0.mod.nolimit.keeps kept).keeps made.toInCall.keep, codeAny_func (wpAny_mono (body'.run [] s1 (L2.start N vs) H _ (inv_start (CX := CX) (E := E) (N := N) (qual := qual) (f := f) (cd := cdv) S room.rm.hd e0 many r made) ht) ?_ fun _ _ z => z)⟩
  rintro (_ | _ | _ | u) s' g
  · obtain ⟨_, H', J, q⟩ := g; exact ⟨V.non, H', J.os, J.bare, J.base, J.hok, rfl, q⟩
  · exact g.elim fun _ g => g.elim fun _ g => g.2.elim
  · exact g.elim fun _ g => g.elim fun _ g => g.2.elim
  · obtain ⟨v, _, H', J, rv, q⟩ := g; exact ⟨v, H', J.os, J.bare, J.base, J.hok, rv, q⟩
end

abbrev DSp := List Cell → (PyData → List Cell → Prop) → Prop
def liftSp (K : PySem.W.Frag) (sp : DSp) : Sp := fun vs H Q _ => ∃ B G cs R, Rel K B G cs (vs.map some) H ∧ sp cs R ∧ ∀ v H' G' x cs', R x cs' → Same G G' → Rel K B G' cs' (vs.map some) H' → Dn K G' v x → Q v H'
def outC : List Cell → DS → List Cell
  | [], _ => []
  | .d x :: cs, _ :: δ => .d x :: outC cs δ
  | .em :: cs, _ :: δ => .em :: outC cs δ
  | .scr a ns :: cs, _ :: δ => .scr a ns :: outC cs δ
  | .dx a b c xs n ys :: cs, _ :: δ => .dx a b c xs n ys :: outC cs δ
  | _ :: cs, e :: δ => e :: outC cs δ
  | _, [] => []
def sameIo : List Cell → DS → Prop
  | [], _ => True
  | .ol a _ :: cs, e :: δ => (∃ ys, e = .ol a ys) ∧ sameIo cs δ
  | .dk a b c :: cs, e :: δ => e = .dk a b c ∧ sameIo cs δ
  | .dx .. :: cs, e :: δ => False
  | .xc .. :: cs, e :: δ => False
  | .fv .. :: cs, e :: δ => False
  | .od a _ :: cs, e :: δ => (∃ ys, e = .od a ys) ∧ sameIo cs δ
  | .ob a n _ :: cs, e :: δ => (∃ ys, e = .ob a n ys) ∧ sameIo cs δ
  | .gx t :: cs, e :: δ => (∃ u, e = .gx u ∧ u.hd = t.hd) ∧ sameIo cs δ
  | _ :: cs, _ :: δ => sameIo cs δ
  | _ :: _, [] => False
theorem outC_at : ∀ {cs : List Cell} {δ : DS} {i : Nat} {c : Cell}, sameIo cs δ → (outC cs δ)[i]? = some c → ∃ c0, cs[i]? = some c0 ∧ (((∃ x, c0 = .d x) ∨ c0 = .em ∨ ∃ a ns, c0 = .scr a ns) ∧ c = c0 ∨ (∃ a xs ys, c0 = .ol a xs ∧ c = .ol a ys ∧ δ[i]? = some c) ∨ (∃ a b d, c0 = .dk a b d ∧ c = c0 ∧ δ[i]? = some c) ∨ (∃ a xs ys, c0 = .od a xs ∧ c = .od a ys ∧ δ[i]? = some c) ∨ (∃ a n xs ys, c0 = .ob a n xs ∧ c = .ob a n ys ∧ δ[i]? = some c) ∨ (∃ t u, c0 = .gx t ∧ c = .gx u ∧ u.hd = t.hd ∧ δ[i]? = some c))
  | [], _, _, _, _, h => by simp [outC] at h
  | c0 :: cs, [], _, _, s, h => by cases c0 <;> exact s.elim
  | c0 :: cs, e :: δ, 0, c, s, h => by
    refine ⟨c0, rfl, ?_⟩
    cases c0 with
    | em => simp [outC] at h; exact .inl ⟨.inr (.inl rfl), h.symm⟩
    | scr a ns => simp [outC] at h; exact .inl ⟨.inr (.inr ⟨a, ns, rfl⟩), h.symm⟩
    | dx => exact s.elim
    | xc => exact s.elim
    | fv => exact s.elim
    | d x => simp [outC] at h; exact .inl ⟨.inl ⟨x, rfl⟩, h.symm⟩
    | ol a xs => simp [outC] at h; obtain ⟨⟨ys, e1⟩, _⟩ := s; exact .inr (.inl ⟨a, xs, ys, rfl, by rw [← h, e1], by simp [h]⟩)
    | dk a b d => simp [outC] at h; obtain ⟨e1, _⟩ := s; exact .inr (.inr (.inl ⟨a, b, d, rfl, by rw [← h, e1], by simp [h]⟩))
    | od a xs => simp [outC] at h; obtain ⟨⟨ys, e1⟩, _⟩ := s; exact .inr (.inr (.inr (.inl ⟨a, xs, ys, rfl, by rw [← h, e1], by simp [h]⟩)))
    | ob a n xs => simp [outC] at h; obtain ⟨⟨ys, e1⟩, _⟩ := s; exact .inr (.inr (.inr (.inr (.inl ⟨a, n, xs, ys, rfl, by rw [← h, e1], by simp [h]⟩))))
    | gx t => simp [outC] at h; obtain ⟨⟨u, e1, e2⟩, _⟩ := s; exact .inr (.inr (.inr (.inr (.inr ⟨t, u, rfl, by rw [← h, e1], e2, by simp [h]⟩))))
  | c0 :: cs, e :: δ, i + 1, c, s, h => by
    have s' : sameIo cs δ := by cases c0 <;> first | exact s | exact s.2 | exact s.elim
    have h' : (outC cs δ)[i]? = some c := by cases c0 <;> simpa [outC] using h
    obtain ⟨c1, e1, q⟩ := outC_at s' h'
    refine ⟨c1, by simpa using e1, ?_⟩
    simpa using q
theorem outC_len : ∀ {cs : List Cell} {δ : DS}, sameIo cs δ → (outC cs δ).length = cs.length
  | [], _, _ => rfl
  | c0 :: cs, [], s => by cases c0 <;> exact s.elim
  | c0 :: cs, e :: δ, s => by
    have s' : sameIo cs δ := by cases c0 <;> first | exact s | exact s.2 | exact s.elim
    cases c0 <;> simp [outC, outC_len s']
def endsOf (cs : List Cell) (R : PyData → List Cell → Prop) : DEnds := { nx := fun δ => sameIo cs δ ∧ R .none (outC cs δ), rt := fun x δ => sameIo cs δ ∧ R x (outC cs δ) }
def start0 (n : Nat) (cs : List Cell) : DS := cs ++ List.replicate (n - cs.length) .em
section
variable {P : Program} {w : World} {K : PySem.W.Frag} {mg : Str → Option Value} {base : Heap}
theorem rel_start {B G H : Hp} {cs : List Cell} {vs : List V} {N : List Str} (R : Rel K B G cs (vs.map some) H) : Rel K B G (start0 N.length cs) (L2.start N vs) H := by
  have hl : vs.length = cs.length := by have := R.len; simpa using this
  have get : ∀ {i : Nat} {c : Cell}, (start0 N.length cs)[i]? = some c → cs[i]? = some c ∨ c = Cell.em := fun {i c} e => by
    unfold start0 at e
    by_cases hi : i < cs.length
    · rw [List.getElem?_append_left hi] at e; exact .inl e
    · rw [List.getElem?_append_right (by omega), List.getElem?_replicate] at e
      split at e
      · cases e; exact .inr rfl
      · cases e
  refine ⟨by simp [start0, L2.start, hl], R.sg, R.sb, R.dj, fun i c o e1 e2 => ?_, fun i j c c' a e1 e2 m1 m2 => ?_, fun i c a e m => ?_, R.tt⟩
  · rcases get e1 with q | rfl
    · have hi : i < cs.length := (List.getElem?_eq_some_iff.mp q).1
      unfold L2.start at e2
      rw [List.getElem?_append_left (by rw [List.length_map, hl]; exact hi)] at e2
      exact R.ok i c o q e2
    · trivial
  · rcases get e1 with q1 | rfl
    · rcases get e2 with q2 | rfl
      · exact R.ap i j c c' a q1 q2 m1 m2
      · cases m2
    · cases m1
  · rcases get e with q | rfl
    · exact R.fr i c a q m
    · cases m
theorem rel_end {B G G' H H' : Hp} {cs : List Cell} {vs : List V} {δ : DS} {σ : L2.St} (R0 : Rel K B G cs (vs.map some) H) (R : Rel K B G' δ σ H') (s : Same G G') (io : sameIo cs δ) : Rel K B G' (outC cs δ) (vs.map some) H' := by
  refine ⟨by rw [outC_len io, ← R0.len], R.sg, R.sb, R.dj, fun i c o e1 e2 => ?_, fun i j c c' a e1 e2 m1 m2 => ?_, fun i c a e m => ?_, R.tt⟩
  · obtain ⟨c0, e0, q⟩ := outC_at io e1
    have ok0 := R0.ok i c0 o e0 e2
    rcases q with ⟨h, rfl⟩ | ⟨a, xs, ys, rfl, rfl, ed⟩ | ⟨a, b, d, rfl, rfl, ed⟩ | ⟨a, xs, ys, rfl, rfl, ed⟩ | ⟨a, n, xs, ys, rfl, rfl, ed⟩ | ⟨t, u, rfl, rfl, eh, ed⟩
    · rcases h with ⟨x, rfl⟩ | rfl | ⟨a, ns, rfl⟩
      · obtain ⟨v, e, dn⟩ := ok0; exact ⟨v, e, dn.mono s⟩
      · trivial
      · exact ⟨ok0.1, s.seq ok0.2⟩
    · obtain ⟨o', _, _, r⟩ := R.at ed
      exact ⟨ok0.1, r⟩
    · obtain ⟨o', _, _, r⟩ := R.at ed
      exact ⟨ok0.1, r⟩
    · obtain ⟨o', _, _, r⟩ := R.at ed
      exact ⟨ok0.1, r⟩
    · obtain ⟨o', _, _, r⟩ := R.at ed
      exact ⟨ok0.1, r⟩
    · obtain ⟨o', _, _, r⟩ := R.at ed
      exact ⟨by rw [eh]; exact ok0.1, r⟩
  · obtain ⟨c0, e0, q⟩ := outC_at io e1
    obtain ⟨c1, e3, q'⟩ := outC_at io e2
    have h1 : δ[i]? = some c := by
      rcases q with ⟨h, rfl⟩ | ⟨a, xs, ys, rfl, rfl, ed⟩ | ⟨a, b, d, rfl, rfl, ed⟩ | ⟨a, xs, ys, rfl, rfl, ed⟩ | ⟨a, n, xs, ys, rfl, rfl, ed⟩ | ⟨t, u, rfl, rfl, eh, ed⟩
      · rcases h with ⟨x, rfl⟩ | rfl | ⟨a, ns, rfl⟩ <;> cases m1
      · exact ed
      · exact ed
      · exact ed
      · exact ed
      · exact ed
    have h2 : δ[j]? = some c' := by
      rcases q' with ⟨h, rfl⟩ | ⟨a, xs, ys, rfl, rfl, ed⟩ | ⟨a, b, d, rfl, rfl, ed⟩ | ⟨a, xs, ys, rfl, rfl, ed⟩ | ⟨a, n, xs, ys, rfl, rfl, ed⟩ | ⟨t, u, rfl, rfl, eh, ed⟩
      · rcases h with ⟨x, rfl⟩ | rfl | ⟨a, ns, rfl⟩ <;> cases m2
      · exact ed
      · exact ed
      · exact ed
      · exact ed
      · exact ed
    exact R.ap i j c c' a h1 h2 m1 m2
  · obtain ⟨c0, e0, q⟩ := outC_at io e
    have h1 : δ[i]? = some c := by
      rcases q with ⟨h, rfl⟩ | ⟨a, xs, ys, rfl, rfl, ed⟩ | ⟨a, b, d, rfl, rfl, ed⟩ | ⟨a, xs, ys, rfl, rfl, ed⟩ | ⟨a, n, xs, ys, rfl, rfl, ed⟩ | ⟨t, u, rfl, rfl, eh, ed⟩
      · rcases h with ⟨x, rfl⟩ | rfl | ⟨a, ns, rfl⟩ <;> cases m
      · exact ed
      · exact ed
      · exact ed
      · exact ed
      · exact ed
    exact R.fr i c a h1 m
theorem okD {x qual : Str} {st : Stmt} {f : Addr} {fd : FuncData} {N ps : List Str} {k : Nat} {sp : DSp} {wb : DTS} (F : Fun K x qual st f fd) (S : FnScope N ps (defScope st)) (dl : ∀ cs R, sp cs R → cs.length = ps.length)
    (body : ∀ (cdv : Value) (A : Around) (outer : List Env) (s : Shared) (H : Hp) (E : XK), RoomG k (A.deeper (envOfC qual (defScope st) s.heap.objs.size f cdv)) → JSs (cxOf CX0 P w K mg base N qual (defScope st) f cdv A outer s H E).nox (defBody st) wb)
    (rd : ∀ cs R, sp cs R → wb (endsOf cs R) (start0 N.length cs)) : FnG P w K mg base CX0 (k + 1) f fd ps (liftSp K sp) := by
  obtain ⟨oc, od, kV, doc, pm, an, cdv, ct, osl, rfl, lk, hcd⟩ := F.ex
  refine fnG_of lk hcd S (fun vs H Q E ⟨B, G, cs, R, rel, hs, _⟩ => by rw [← dl cs R hs, ← rel.len, List.length_map]) fun A outer s H vs Q E hr ⟨B, G, cs, R, rel, hs, k⟩ => ?_
  refine ⟨_, (body cdv A outer s H E hr).nox, B, G, _, endsOf cs R, rel_start rel, rd cs R hs, ?_⟩
  exact ⟨fun σ' H' G' δ' ⟨io, r⟩ sG rel' => k _ H' G' _ _ r sG (rel_end rel rel' sG io) .non, fun v σ' H' G' x δ' ⟨io, r⟩ sG rel' dn => k v H' G' x _ r sG (rel_end rel rel' sG io) dn, fun _ _ _ _ h => h.elim, fun _ _ _ _ h => h.elim⟩
end

def lkM : List Bool → List Opd → DS → (List Opd → DS → Prop) → Prop
  | _, [], δ, k => k [] δ
  | m, o :: os, δ, k => if m.headD false = true then lkM m.tail os δ fun r δ' => k (o :: r) δ' else lk o δ fun x δ1 => lkM m.tail os δ1 fun r δ' => k (.d x :: r) δ'
def cellOf (δ : DS) : Opd → Cell
  | .d x => .d x
  | .s i => (δ[i]?).getD .em
def putBack : List Opd → List Cell → DS → DS
  | .s i :: os, c :: cs, δ => putBack os cs (δ.set i c)
  | .d _ :: os, _ :: cs, δ => putBack os cs δ
  | _, _, δ => δ
def slotsOf : List Opd → List Nat
  | [] => []
  | .s i :: os => i :: slotsOf os
  | .d _ :: os => slotsOf os
def wCall (m : List Bool) (sp : DSp) (w : DA) : DE := fun δ R => w δ fun os δ1 => lkM m os δ1 fun os' δ2 => (slotsOf os').Nodup ∧ sp (os'.map (cellOf δ2)) fun x cs => R (.d x) (putBack os' cs δ2)
theorem lkM_ok {K : PySem.W.Frag} {B H : Hp} {σ : L2.St} : ∀ {m : List Bool} {vs : List V} {os : List Opd} {G : Hp} {δ : DS} {k : List Opd → DS → Prop}, Rel K B G δ σ H → OpdsOk K G σ vs os → lkM m os δ k → ∃ G' δ' os', k os' δ' ∧ Same G G' ∧ Rel K B G' δ' σ H ∧ OpdsOk K G' σ vs os'
  | _, _, [], G, δ, k, R, h, q => by cases h; exact ⟨G, δ, [], by simpa [lkM] using q, Same.refl _, R, .nil⟩
  | m, _, o :: os, G, δ, k, R, h, q => by
    cases h with
    | cons a b =>
      unfold lkM at q
      split at q
      · obtain ⟨G1, δ1, os', q1, s1, R1, ok1⟩ := lkM_ok R b q
        exact ⟨G1, δ1, o :: os', q1, s1, R1, .cons (a.mono s1) ok1⟩
      · obtain ⟨G1, δ1, x, q1, s1, R1, d1⟩ := lk_ok R a q
        obtain ⟨G2, δ2, os', q2, s2, R2, ok2⟩ := lkM_ok R1 (b.mono s1) q1
        exact ⟨G2, δ2, .d x :: os', q2, s1.trans s2, R2, .cons (Dn.mono s2 _ d1) ok2⟩
theorem mem_slots {os : List Opd} {i : Nat} : i ∈ slotsOf os ↔ ∃ j : Nat, os[j]? = some (Opd.s i) := by
  induction os with
  | nil => simp [slotsOf]
  | cons o os ih =>
    cases o with
    | d x =>
      simp only [slotsOf, ih]
      constructor
      · rintro ⟨j, e⟩; exact ⟨j + 1, by simpa using e⟩
      · rintro ⟨j, e⟩
        cases j with
        | zero => simp at e
        | succ j => exact ⟨j, by simpa using e⟩
    | s i' =>
      simp only [slotsOf, List.mem_cons, ih]
      constructor
      · rintro (rfl | ⟨j, e⟩)
        · exact ⟨0, rfl⟩
        · exact ⟨j + 1, by simpa using e⟩
      · rintro ⟨j, e⟩
        cases j with
        | zero => simp at e; exact .inl e.symm
        | succ j => exact .inr ⟨j, by simpa using e⟩
theorem slots_uniq {os : List Opd} (h : (slotsOf os).Nodup) : ∀ {j k i : Nat}, os[j]? = some (Opd.s i) → os[k]? = some (Opd.s i) → j = k := by
  induction os with
  | nil => intro j k i e; simp at e
  | cons o os ih =>
    intro j k i e1 e2
    have h' : (slotsOf os).Nodup := by
      cases o with
      | d x => exact h
      | s i' => exact (List.nodup_cons.mp h).2
    cases j with
    | zero =>
      cases k with
      | zero => rfl
      | succ k =>
        simp at e1; subst e1
        exact absurd (mem_slots.mpr ⟨k, by simpa using e2⟩) (List.nodup_cons.mp h).1
    | succ j =>
      cases k with
      | zero =>
        simp at e2; subst e2
        exact absurd (mem_slots.mpr ⟨j, by simpa using e1⟩) (List.nodup_cons.mp h).1
      | succ k => exact congrArg (· + 1) (ih (i := i) h' (by simpa using e1) (by simpa using e2))
theorem opds_at {K : PySem.W.Frag} {G : Hp} {σ : L2.St} : ∀ {vs : List V} {os : List Opd} {j : Nat} {o : Opd}, OpdsOk K G σ vs os → os[j]? = some o → ∃ v, vs[j]? = some v ∧ OpdOk K G σ v o
  | _, [], _, _, h, e => by simp at e
  | _, o :: os, 0, _, h, e => by cases h with | cons a b => simp at e; subst e; exact ⟨_, rfl, a⟩
  | _, o :: os, j + 1, x, h, e => by
    cases h with
    | cons a b =>
      obtain ⟨v, h1, h2⟩ := opds_at (j := j) b (by simpa using e)
      exact ⟨v, by simpa using h1, h2⟩
theorem opds_len {K : PySem.W.Frag} {G : Hp} {σ : L2.St} : ∀ {vs : List V} {os : List Opd}, OpdsOk K G σ vs os → vs.length = os.length
  | _, [], h => by cases h; rfl
  | _, o :: os, h => by cases h with | cons a b => simp [opds_len b]
noncomputable def hold (B H : Hp) (δ : DS) (io : List Nat) : Hp := by
  classical
  exact fun a => if ∃ i c, δ[i]? = some c ∧ a ∈ c.fp ∧ i ∉ io then H a else B a
section
variable {K : PySem.W.Frag} {B G H : Hp} {δ : DS} {σ : L2.St} {io : List Nat} {a : Addr}
theorem hold_in (h : ∃ i c, δ[i]? = some c ∧ a ∈ c.fp ∧ i ∉ io) : hold B H δ io a = H a := by unfold hold; exact if_pos h
theorem hold_out (h : ¬ ∃ i c, δ[i]? = some c ∧ a ∈ c.fp ∧ i ∉ io) : hold B H δ io a = B a := by unfold hold; exact if_neg h
theorem call_rel {vs : List V} {os : List Opd} (R : Rel K B G δ σ H) (ok : OpdsOk K G σ vs os) (nd : (slotsOf os).Nodup) : Rel K (hold B H δ (slotsOf os)) G (os.map (cellOf δ)) (vs.map some) H := by
  have getc : ∀ {j : Nat} {c : Cell}, (os.map (cellOf δ))[j]? = some c → ∃ o, os[j]? = some o ∧ c = cellOf δ o := fun {j c} e => by
    rw [List.getElem?_map] at e
    cases h : os[j]? with
    | none => rw [h] at e; cases e
    | some o => rw [h] at e; cases e; exact ⟨o, rfl, rfl⟩
  have own : ∀ {j : Nat} {c : Cell} {a : Addr}, (os.map (cellOf δ))[j]? = some c → a ∈ c.fp → ∃ i, os[j]? = some (.s i) ∧ δ[i]? = some c := fun {j c a} e m => by
    obtain ⟨o, e1, rfl⟩ := getc e
    cases o with
    | d x => cases m
    | s i =>
      refine ⟨i, e1, ?_⟩
      have m' : a ∈ ((δ[i]?).getD Cell.em).fp := m
      show δ[i]? = some ((δ[i]?).getD Cell.em)
      cases h : δ[i]? with
      | none => rw [h] at m'; cases m'
      | some c => rfl
  refine ⟨by simp [opds_len ok], R.sg, fun a o e => ?_, fun a => ?_, fun j c o e1 e2 => ?_, fun j k c c' a e1 e2 m1 m2 => ?_, fun j c a e m => ?_, ⟨R.tt.t, ⟨fun a o e => ?_, R.tt.n.g⟩⟩⟩
  · by_cases h : ∃ i c, δ[i]? = some c ∧ a ∈ c.fp ∧ i ∉ slotsOf os
    · rw [hold_in h] at e; exact e
    · rw [hold_out h] at e; exact R.sb _ _ e
  · by_cases h : ∃ i c, δ[i]? = some c ∧ a ∈ c.fp ∧ i ∉ slotsOf os
    · obtain ⟨i, c, h1, h2, _⟩ := h
      exact .inl (R.fr i c a h1 h2).1
    · rw [hold_out h]; exact R.dj a
  · obtain ⟨od, e3, rfl⟩ := getc e1
    obtain ⟨v, e4, okv⟩ := opds_at ok e3
    rw [List.getElem?_map, e4] at e2
    cases e2
    cases od with
    | d x => exact ⟨v, rfl, okv⟩
    | s i =>
      have hσ : σ[i]? = some (some v) := okv
      show CellOk K G H ((δ[i]?).getD Cell.em) (some v)
      cases h : δ[i]? with
      | none => trivial
      | some c => exact R.ok i c _ h hσ
  · obtain ⟨i, h1, h2⟩ := own e1 m1
    obtain ⟨i', h3, h4⟩ := own e2 m2
    have := R.ap i i' c c' a h2 h4 m1 m2
    subst this
    exact slots_uniq nd h1 h3
  · obtain ⟨i, h1, h2⟩ := own e m
    obtain ⟨f1, f2⟩ := R.fr i c a h2 m
    refine ⟨f1, ?_⟩
    rw [hold_out]
    · exact f2
    · rintro ⟨i', c', h3, h4, h5⟩
      have := R.ap i i' c c' a h2 h3 m h4
      subst this
      exact h5 (mem_slots.mpr ⟨j, h1⟩)
  · by_cases h : ∃ i c, δ[i]? = some c ∧ a ∈ c.fp ∧ i ∉ slotsOf os
    · rw [hold_in h] at e
      obtain ⟨i, c, h1, h2, _⟩ := h
      obtain ⟨ov, _, okc⟩ := R.at h1
      exact cell_te okc h2 o e
    · rw [hold_out h] at e; exact R.tt.n.b _ _ e
theorem putBack_at : ∀ {os : List Opd} {cs : List Cell} {δ : DS} {i : Nat} {c : Cell}, os.length = cs.length → (slotsOf os).Nodup → (putBack os cs δ)[i]? = some c → (i ∉ slotsOf os ∧ δ[i]? = some c) ∨ ∃ j : Nat, os[j]? = some (Opd.s i) ∧ cs[j]? = some c
  | [], cs, δ, i, c, hl, nd, h => by unfold putBack at h; exact .inl ⟨(fun m => nomatch m), h⟩
  | o :: os, [], δ, i, c, hl, nd, h => by simp at hl
  | .d x :: os, c0 :: cs, δ, i, c, hl, nd, h => by
    rcases putBack_at (os := os) (cs := cs) (by simpa using hl) nd (by simpa [putBack] using h) with ⟨h1, h2⟩ | ⟨j, h1, h2⟩
    · exact .inl ⟨h1, h2⟩
    · exact .inr ⟨j + 1, by simpa using h1, by simpa using h2⟩
  | .s i0 :: os, c0 :: cs, δ, i, c, hl, nd, h => by
    rcases putBack_at (os := os) (cs := cs) (by simpa using hl) (List.nodup_cons.mp nd).2 (by simpa [putBack] using h) with ⟨h1, h2⟩ | ⟨j, h1, h2⟩
    · by_cases hi : i0 = i
      · subst hi
        rw [List.getElem?_set] at h2
        simp only [if_true] at h2
        split at h2
        · cases h2; exact .inr ⟨0, rfl, rfl⟩
        · cases h2
      · rw [List.getElem?_set_ne hi] at h2
        exact .inl ⟨fun m => by rcases List.mem_cons.mp m with z | z; exact hi z.symm; exact h1 z, h2⟩
    · exact .inr ⟨j + 1, by simpa using h1, by simpa using h2⟩
theorem putBack_len : ∀ {os : List Opd} {cs : List Cell} {δ : DS}, (putBack os cs δ).length = δ.length
  | [], cs, δ => by simp [putBack]
  | .d _ :: os, [], δ => by rfl
  | .s _ :: os, [], δ => by rfl
  | .d _ :: os, c :: cs, δ => by simp [putBack, putBack_len]
  | .s _ :: os, c :: cs, δ => by simp [putBack, putBack_len]
theorem call_back {G' H' : Hp} {vs : List V} {os : List Opd} {cs : List Cell} (R : Rel K B G δ σ H) (ok : OpdsOk K G σ vs os) (nd : (slotsOf os).Nodup) (s : Same G G') (R' : Rel K (hold B H δ (slotsOf os)) G' cs (vs.map some) H') : Rel K B G' (putBack os cs δ) σ H' := by
  have hlen : os.length = cs.length := by rw [← opds_len ok, ← R'.len, List.length_map]
  have sb : Same B H' := fun a o e => by
    by_cases h : ∃ i c, δ[i]? = some c ∧ a ∈ c.fp ∧ i ∉ slotsOf os
    · obtain ⟨i, c, h1, h2, _⟩ := h
      rw [(R.fr i c a h1 h2).2] at e; cases e
    · exact R'.sb a o (by rw [hold_out h]; exact e)
  have keep : ∀ {i : Nat} {c : Cell} {a : Addr}, i ∉ slotsOf os → δ[i]? = some c → a ∈ c.fp → H' a = H a ∧ hold B H δ (slotsOf os) a = H a := fun {i c a} h1 h2 h3 => by
    have e := hold_in (B := B) (H := H) ⟨i, c, h2, h3, h1⟩
    obtain ⟨o, eo⟩ := R.tr h2 h3
    exact ⟨by rw [R'.sb a o (by rw [e]; exact eo), eo], e⟩
  refine ⟨by rw [putBack_len]; exact R.len, R'.sg, sb, fun a => ?_, fun i c o e1 e2 => ?_, fun i k c c' a e1 e2 m1 m2 => ?_, fun i c a e m => ?_, ⟨R'.tt.t, ⟨R.tt.n.b, R'.tt.n.g⟩⟩⟩
  · by_cases h : ∃ i c, δ[i]? = some c ∧ a ∈ c.fp ∧ i ∉ slotsOf os
    · obtain ⟨i, c, h1, h2, _⟩ := h
      exact .inr (R.fr i c a h1 h2).2
    · have := R'.dj a
      rw [hold_out h] at this; exact this
  · rcases putBack_at hlen nd e1 with ⟨h1, h2⟩ | ⟨j, h1, h2⟩
    · exact (R.ok i c o h2 e2).stay s fun a m => (keep h1 h2 m).1
    · obtain ⟨v, h3, h4⟩ := opds_at ok h1
      have h5 : σ[i]? = some (some v) := h4
      rw [h5] at e2; cases e2
      exact R'.ok j c (some v) h2 (by rw [List.getElem?_map, h3]; rfl)
  · rcases putBack_at hlen nd e1 with ⟨h1, h2⟩ | ⟨j, h1, h2⟩
    · rcases putBack_at hlen nd e2 with ⟨h3, h4⟩ | ⟨j', h3, h4⟩
      · exact R.ap i k c c' a h2 h4 m1 m2
      · obtain ⟨_, f2⟩ := R'.fr j' c' a h4 m2
        rw [(keep h1 h2 m1).2] at f2
        obtain ⟨o, eo⟩ := R.tr h2 m1
        rw [eo] at f2; cases f2
    · rcases putBack_at hlen nd e2 with ⟨h3, h4⟩ | ⟨j', h3, h4⟩
      · obtain ⟨_, f2⟩ := R'.fr j c a h2 m1
        rw [(keep h3 h4 m2).2] at f2
        obtain ⟨o, eo⟩ := R.tr h4 m2
        rw [eo] at f2; cases f2
      · have := R'.ap j j' c c' a h2 h4 m1 m2
        subst this
        rw [h1] at h3; cases h3; rfl
  · rcases putBack_at hlen nd e with ⟨h1, h2⟩ | ⟨j, h1, h2⟩
    · obtain ⟨f1, f2⟩ := R.fr i c a h2 m
      refine ⟨?_, f2⟩
      rcases R'.dj a with z | z
      · exact z
      · rw [(keep h1 h2 m).2] at z
        obtain ⟨o, eo⟩ := R.tr h2 m
        rw [eo] at z; cases z
    · obtain ⟨f1, f2⟩ := R'.fr j c a h2 m
      refine ⟨f1, ?_⟩
      by_cases h : ∃ i c, δ[i]? = some c ∧ a ∈ c.fp ∧ i ∉ slotsOf os
      · obtain ⟨i', c', h3, h4, _⟩ := h
        exact (R.fr i' c' a h3 h4).2
      · rw [hold_out h] at f2; exact f2
end
section
variable {X : Cx} {CX : CXT} {k : Nat} {f : Addr} {fd : FuncData} {ps : List Str} {x : Str} {p pos : Pos} {e : Expr} {es : List Expr}
theorem run_fnG {sp : Sp} {E : XK} {pins : List (Addr × Obj)} {σ : L2.St} {H : Hp} {s : Shared} {Q : VK} {us : List Value} {vs : List V} (F : FnG X.prog X.w X.K X.mg X.base CX k f fd ps sp) (hr : RoomG k X.A) (hb : Binds X.K fd ps []) (hx : Passes CX X E)
    (I : Inv X pins σ H s) (r : Vals vs us) (h : sp vs H Q E) : wpAny (model X.prog X.w) X.A (call (.ref f) us) (EP X pins σ Q) X.xe s := by
  have many : (us ++ []).length = ps.length := (List.append_nil us).symm ▸ r.length.symm.trans (F.len _ _ _ _ h)
  have bound : BindsTo s fd ⟨us, []⟩ (ps.zip us) := by have := hb s us I.kIn many; rwa [List.append_nil] at this
  refine wpAny_call (codeAny_mono (F.run X.A X.stack s H ⟨us, []⟩ us vs Q E hr I.env0 bound r h) ?_)
  rintro (err | _ | _ | _ | u) z back <;> first | exact hx pins σ H s err z I back | exact False.elim back | exact I.after back
theorem pe_callG {sp : Sp} {E : XK} {t : TA} (F : FnG X.prog X.w X.K X.mg X.base CX k f fd ps sp) (hr : RoomG k X.A) (hg : Gl X x) (hm : X.mg x = some (.ref f)) (hk : PySem.W.keepIn X.K (.ref f) = true) (hb : Binds X.K fd ps []) (hx : Passes CX X E)
    (ha : PA X (e :: es) t) (hdb : (x == ("__debug__" : Str)) = false := by decide) (he : starEach (e :: es) X.env = (false, eval e X.env) :: starEach es X.env := by rfl) (hpl : (backTo pos (starEach es X.env)).any (·.1) = false := by rfl) : PE X (.Call (.Name x p) (e :: es) [] pos) (tCall sp [] E t) := by
  exact ⟨fun pins s σ H Q I h => wpAny_Call_Name_kw (ld_glob I hg hm (PySem.W.callWith_K (h₀ := X.base) I.ok.mod.kin hk (wpAny_mono (ha.run pos pins s σ H _ I h)
    (fun us z ⟨vs, H1, I1, r, q⟩ => ⟨I1.kIn, run_fnG F hr hb hx I1 r (by have q : sp (vs ++ []) H1 Q E := q; rwa [List.append_nil] at q)⟩) fun _ _ z => z) he hpl) hdb)⟩
theorem je_call {m : List Bool} {sp : DSp} {w : DA} (F : FnG X.prog X.w X.K X.mg X.base CX0 k f fd ps (liftSp X.K sp)) (hr : RoomG k X.A) (hg : Gl X x) (hm : X.mg x = some (.ref f)) (hk : PySem.W.keepIn X.K (.ref f) = true) (hb : Binds X.K fd ps [])
    (ha : JA X (e :: es) w) (hdb : (x == ("__debug__" : Str)) = false := by decide) (he : starEach (e :: es) X.env = (false, eval e X.env) :: starEach es X.env := by rfl) (hpl : (backTo pos (starEach es X.env)).any (·.1) = false := by rfl) : JE X (.Call (.Name x p) (e :: es) [] pos) (wCall m sp w) :=
  pe_le (pe_callG (E := E0) F hr hg hm hk hb pass0 ha hdb he hpl) fun pins s σ H Q I ⟨B, G, δ, R, rel, hw, k⟩ => ⟨B, G, δ, _, rel, hw, fun vs H1 G1 os δ1 r1 s1 rel1 ok1 => by
    obtain ⟨G2, δ2, os', ⟨nd, q⟩, s2, rel2, ok2⟩ := lkM_ok rel1 ok1 r1
    rw [List.append_nil]
    exact ⟨_, G2, _, _, call_rel rel2 ok2 nd, q, fun v H' G' z cs r s3 rel3 dn => k v H' G' _ _ r (s1.trans (s2.trans s3)) (call_back rel2 ok2 nd s3 rel3) dn⟩⟩
end
end DL
set_option Elab.async false
set_option linter.all false
set_option maxRecDepth 100000
set_option maxHeartbeats 4000000
namespace DL
open PySem PySem.Spec PyProof.Rows L2
variable [Tb]

inductive Src where
  | l (a : Addr)
  | t (a : Addr)
def Src.ad : Src → Addr
  | .l a => a
  | .t a => a
def Src.is (h : Heap) (its : Array Value) : Src → Prop
  | .l a => h.IsList a its
  | .t a => h.IsTuple a its
def Src.iter (h : Heap) (it : Addr) (n : Nat) : Src → Prop
  | .l a => h.IsListIter it a n
  | .t a => h.IsTupleIter it a n
def Src.ob : Src → Obj
  | .l a => { cls := .type "list_iterator", data := .fields #[.ref a, .int 0 0] }
  | .t a => { cls := .type "tuple_iterator", data := .fields #[.ref a, .int 0 0] }
def SrcOk (K : PySem.W.Frag) (H : Hp) (S : Src) (xs : List V) : Prop := match S with
  | .l a => SqL K H a xs
  | .t a => SqT K H a xs
theorem Src.draws {prog : Program} {w : World} {A : Around} (hh : A.handled = none) (S : Src) (it : Addr) (hne : S.ad ≠ it) (items : Array Value) :
    Draws prog w A it [it, S.ad] items.size (fun i v => items[i]? = some v) (fun i h => S.iter h it i ∧ S.is h items) := by
  cases S with
  | l a => exact Draws.list hh it a hne items
  | t a => exact Draws.tuple hh it a hne items
theorem Src.begins (S : Src) (items : Array Value) : Begins (.ref S.ad) S.ob fun h => S.is h items := by
  cases S with
  | l a => exact begins_list a items
  | t a => exact begins_tuple a items
theorem Src.lt {S : Src} {h : Heap} {its : Array Value} (x : S.is h its) : S.ad < h.objs.size := by
  cases S with
  | l a => obtain ⟨o, e, _⟩ := x; exact Heap.lt_size e
  | t a => obtain ⟨o, e, _⟩ := x; exact Heap.lt_size e
theorem Src.iter_keep {S : Src} {h h' : Heap} {it : Addr} {n : Nat} (x : S.iter h it n) (k : ∀ o, h.get? it = some o → h'.get? it = some o) : S.iter h' it n := by
  cases S with
  | l a => exact Heap.IsListIter.at x k
  | t a => exact Heap.IsTupleIter.at x k
theorem Src.iter_of {S : Src} {h : Heap} {it : Addr} (e : h.get? it = some S.ob) : S.iter h it 0 := by
  cases S with
  | l a => exact ⟨_, e, rfl, rfl⟩
  | t a => exact ⟨_, e, rfl, rfl⟩
theorem Src.iter_obj {S : Src} {h : Heap} {it : Addr} {n : Nat} (x : S.iter h it n) : ∃ o, h.get? it = some o ∧ ∀ v, o.data ≠ .cell v := by
  cases S with
  | l a => obtain ⟨o, e, c, d⟩ := x; exact ⟨o, e, fun v z => by rw [d] at z; cases z⟩
  | t a => obtain ⟨o, e, c, d⟩ := x; exact ⟨o, e, fun v z => by rw [d] at z; cases z⟩
theorem src_get {X : Cx} {pins : List (Addr × Obj)} {σ : L2.St} {H : Hp} {s : Shared} {S : Src} {xs : List V} (I : Inv X pins σ H s) (h : SrcOk X.K H S xs) : ∃ its : List Value, Vals xs its ∧ S.is s.heap its.toArray ∧ xs.length ≤ sizeLine := by
  cases S with
  | l a => obtain ⟨its, rv, p, hz⟩ := I.list h; exact ⟨its, rv, p.isList, hz⟩
  | t a => obtain ⟨its, rv, p, hz⟩ := I.tuple h; exact ⟨its, rv, p, hz⟩
theorem src_inj {X : Cx} {pins : List (Addr × Obj)} {σ : L2.St} {H : Hp} {s : Shared} {S : Src} {xs ys : List V} (I : Inv X pins σ H s) (h : SrcOk X.K H S xs) (h' : SrcOk X.K H S ys) : xs = ys := by
  cases S with
  | l a => exact I.list_inj h h'
  | t a => exact I.tuple_inj h h'
def Sits (ch : List Addr) (h : Heap) : Prop := ∀ b ∈ ch, ∃ o, h.get? b = some o ∧ ∀ v, o.data ≠ .cell v
theorem Sits.nil {h : Heap} : Sits [] h := fun _ m => nomatch m
theorem Sits.put {b : Addr} {ch : List Addr} {h : Heap} {o : Obj} (e : h.get? b = some o) (n : ∀ v, o.data ≠ .cell v) (t : Sits ch h) : Sits (b :: ch) h :=
  List.forall_mem_cons.mpr ⟨⟨o, e, n⟩, t⟩
theorem Sits.src {S : Src} {b : Addr} {ch : List Addr} {h : Heap} {n : Nat} (e : S.iter h b n) (t : Sits ch h) : Sits (b :: ch) h :=
  List.forall_mem_cons.mpr ⟨Src.iter_obj e, t⟩
theorem row_laid {X : Cx} {pins : List (Addr × Obj)} {σ : L2.St} {H : Hp} {s : Shared} {ch : List Addr} {h' : Heap} {tk : Nat} {row : List V} {us : List Value}
    (I : Inv X pins σ H s) (own : ∀ b ∈ ch, FpOk X pins H b) (sit : Sits ch s.heap) (same : ∀ b o, b ∉ ch → s.heap.get? b = some o → h'.get? b = some o)
    (short : row.length ≤ sizeLine) (r : Vals row us) (top : h'.get? s.heap.objs.size = some { cls := .type "tuple", data := .seq us.toArray }) :
    Inv X pins σ (upd H s.heap.objs.size (tupH (tupO us) row)) { s with heap := h', toks := tk } ∧ H s.heap.objs.size = none ∧ ∀ b ∈ ch, upd H s.heap.objs.size (tupH (tupO us) row) b = none := by
  refine ⟨I.turnedNew same own (Nat.le_refl _) (tupH_ok top rfl rfl short r), I.hok.fresh (Nat.le_refl _), fun b m => ?_⟩
  obtain ⟨o, at_b, _⟩ := sit b m
  exact (upd_ne (Nat.ne_of_lt (Heap.lt_size at_b))).trans (own b m).1
theorem all_new {X : Cx} {pins : List (Addr × Obj)} {σ : L2.St} {H : Hp} {s : Shared} (I : Inv X pins σ H s) (ks : List Nat) : ∀ b ∈ ks.map (s.heap.objs.size + ·), FpOk X pins H b := fun b m => by
  obtain ⟨k, _, rfl⟩ := List.mem_map.mp m
  exact I.fpOk (Nat.le_add_right _ k) (I.hok.fresh (Nat.le_add_right _ k))
theorem src_item {X : Cx} {pins : List (Addr × Obj)} {σ : L2.St} {H : Hp} {s : Shared} {S : Src} {xs : List V} {i : Nat} {x : V} (I : Inv X pins σ H s) (h : SrcOk X.K H S xs) (e : xs[i]? = some x) :
    ∃ (its : Array Value) (u : Value), S.is s.heap its ∧ i < its.size ∧ (∀ y, its[i]? = some y → y = u) ∧ RelV x u ∧ ∀ ys, SrcOk X.K H S ys → ys[i]? = some x := by
  obtain ⟨its, rv, at_s, _⟩ := src_get I h
  obtain ⟨u, eu, ru⟩ := rv.get e
  refine ⟨its.toArray, u, at_s, ?_, fun y ey => ?_, ru, fun ys h2 => src_inj I h2 h ▸ e⟩
  · rw [List.size_toArray]; exact (List.getElem?_eq_some_iff.mp eu).1
  · rw [List.getElem?_toArray, eu] at ey; exact (Option.some.inj ey).symm
theorem src_all {X : Cx} {pins : List (Addr × Obj)} {σ : L2.St} {H : Hp} {s : Shared} {S : Src} {xs : List V} (I : Inv X pins σ H s) (h : SrcOk X.K H S xs) :
    ∃ its : Array Value, S.is s.heap its ∧ its.size = xs.length := by
  obtain ⟨its, rv, at_s, _⟩ := src_get I h
  exact ⟨its.toArray, at_s, by rw [List.size_toArray]; exact rv.length.symm⟩
theorem pi_class {X : Cx} {tg e : Expr} {es : List Expr} {ta : TA} {p pos : Pos} {x : Str} {T : String} {W : List V → Hp → (It → Hp → Prop) → Prop} (hg : Gl X x) (hm : X.mg x = none) (hb : bootBuiltins x = some (.type T)) (ha : PA X (e :: es) ta)
    (hs : starEach (e :: es) X.env = (false, eval e X.env) :: starEach es X.env) (hpl : (backTo pos (starEach es X.env)).any (·.1) = false) (hx : x ≠ "__name__") (hd : (x == ("__debug__" : Str)) = false)
    (k : ∀ (pins : List (Addr × Obj)) (s : Shared) (σ : L2.St) (H : Hp) (R : It → Hp → Prop) (vs : List V) (us : List Value), Inv X pins σ H s → Vals vs us → W vs H R →
      wpAny (model X.prog X.w) X.A (call (.type T) us) (fun v s1 => wpAny (model X.prog X.w) X.A (pyIter v) (PIE X pins σ tg R) X.xe s1) X.xe s) :
    PI X tg (.Call (.Name x p) (e :: es) [] pos) (fun σ H R => ta σ H fun vs H1 => W vs H1 R) where
  run pins s σ H R I h := Call_ (ld_blt I hg hm hb (PyProof.Rows.callWith_type1 (wpAny_mono (ha.run pos pins s σ H _ I h)
    (fun us _ ⟨vs, H1, I1, r, q⟩ => k pins _ σ H1 R vs us I1 r q) fun _ _ z => z) hs hpl) hx hd)

def Ien (K : PySem.W.Frag) (S : Src) : It :=
  ⟨fun i H => ∃ xs x, SrcOk K H S xs ∧ xs[i]? = some x,
   fun i H v H' => ∃ (p : Addr) (o : Obj) (x : V), o.dict = none ∧ v = .ref p ∧ H p = none ∧ H' = upd H p (tupH o [.int (i : Nat), x]) ∧ ∀ xs, SrcOk K H S xs → xs[i]? = some x,
   fun i H => ∃ xs, SrcOk K H S xs ∧ i = xs.length⟩
theorem turn_en {P : Program} {w : World} {K : PySem.W.Frag} {elts : List Expr} {kk : Nat} {tpos : Pos} {S : Src} {e it : Addr} (n1 : S.ad ≠ it) (n2 : e ≠ it) (n3 : e ≠ S.ad) :
    Turn P w K (.Tuple elts kk tpos) (Ien K S) [e, it] e (fun i h => (∃ old, IsEnum h e it ((i : Nat) : Int) old) ∧ S.iter h it i) := by
  have sit : ∀ {i : Nat} {h : Heap} {c : Int} {old : Value}, IsEnum h e it c old → S.iter h it i → Sits [e, it] h := fun he h1 => .put he nofun (.src h1 .nil)
  refine ⟨List.mem_cons_self, fun i h ⟨⟨_, he⟩, h1⟩ => sit he h1, ?_, ?_, ?_, fun _ _ _ _ _ ⟨⟨_, he⟩, _⟩ => wpAny_pyIter_enum he⟩
  · rintro i h h' ⟨⟨old, he⟩, h1⟩ k
    exact ⟨⟨old, k e (by simp) _ he⟩, Src.iter_keep h1 (k it (by simp))⟩
  · rintro X rfl rfl rfl hc i pins s σ H E I own ⟨⟨old, he⟩, h1⟩ ⟨xs, x, ox, ex⟩
    obtain ⟨as, u1, at1, l1, val1, r1, same1⟩ := src_item I ox ex
    refine wpAny_pyNext_enum_itemD (Src.draws (A := X.A.in1) (I.ok.hd hc) S it n1 as) he ⟨h1, at1⟩ l1 n2 (by simp [n2, n3]) fun y g tk ey go g1 top _ kept => ⟨_, rfl, ?_⟩
    cases val1 _ ey
    refine wpAny_letOwnedTupleGo_enum (s := { s with heap := g, toks := tk + 1 }) go fun g' ge' but => ?_
    have old' : e ≠ s.heap.objs.size := Nat.ne_of_lt (Heap.lt_size he)
    obtain ⟨I', new, none'⟩ := row_laid (h' := g') (tk := tk + 1) (row := [.int (i : Nat), x]) I own (sit he h1)
      (fun c o m q => by
        simp only [List.mem_cons, List.not_mem_nil, or_false, not_or] at m
        exact (but.2 c m.1).trans (kept c o m.1 m.2 q))
      (show 2 ≤ sizeLine by decide) (.cons ⟨tk, rfl⟩ (.cons r1 .nil)) ((but.2 _ old'.symm).trans top)
    exact ⟨.ref s.heap.objs.size, _, I', rfl, ⟨_, _, x, rfl, rfl, new, rfl, same1⟩, ⟨⟨_, by rw [Int.natCast_succ]; exact ge'⟩, Src.iter_keep g1.1 fun o q => (but.2 it n2.symm).trans q⟩, none'⟩
  · rintro X rfl rfl rfl hc i pins s σ H E I own ⟨⟨old, he⟩, h1⟩ ⟨xs, ox, rfl⟩
    obtain ⟨as, at1, s1⟩ := src_all I ox
    rw [← s1] at h1
    refine wpAny_pyNext_enum_endD (Src.draws (A := X.A.in1) (I.ok.hd hc) S it n1 as) he ⟨h1, at1⟩ fun g kept => ⟨rfl, ?_⟩
    exact I.turnedL (t' := s.toks) (fun c o m => kept c o fun z => m (z ▸ List.mem_cons_of_mem _ List.mem_cons_self)) own
theorem enum_made {v : Value} {o : Obj} {Q : Heap → Prop} (B : Begins v o Q) :
    Meets (Builtin.«enumerate.__new__» ⟨[.type "enumerate", v], []⟩) (fun _ R s => Q s.heap ∧
      R (.ok (.ret (.ref (s.heap.push o).objs.size))) { s with heap := (s.heap.push o).push { cls := .type "enumerate", data := .fields #[.none, .bool false, .ref s.heap.objs.size, rawInt 0, .none, .none] } }) := by
  refine .of_wp fun prog w A R => ?_
  rintro ⟨hp, gs, dr, tk, os⟩ ⟨at_v, h⟩
  have begun {A' : Around} {E G : Value → Shared → Prop} : G (.ref hp.objs.size) ⟨hp.push o, gs, dr, tk, os⟩ → wpAny (model prog w) A' (pyIter v) G E ⟨hp, gs, dr, tk, os⟩ := B.iter prog w _ _ ⟨hp, gs, dr, tk, os⟩ _ at_v
  have sub := sub_enumerate
  wp_walk using begun
  refine wpAny_stack_any fun _ => wpAny_pure ?_
  split
  next c _ _ _ _ _ => cases (c == Value.type "enumerate") <;> (wp_walk using begun; exact ⟨_, rfl, h⟩)
  next => wp_walk using begun; exact ⟨_, rfl, h⟩
theorem enum_starts {prog : Program} {w : World} {A : Around} {E : Value → Shared → Prop} {s : Shared} {v : Value} {o : Obj} {P : Heap → Prop} {Q : Value → Shared → Prop} (B : Begins v o P) (at_v : P s.heap)
    (k : ∀ h', IsEnum h' (s.heap.objs.size + 1) s.heap.objs.size 0 .none → h'.get? s.heap.objs.size = some o → (∀ b u, s.heap.get? b = some u → h'.get? b = some u) → Q (.ref (s.heap.objs.size + 1)) { s with heap := h' }) :
    wpAny (model prog w) A (call (.type "enumerate") [v]) Q E s := by
  refine callType_new F.called_enumerate (by decide) (F.typeCall_enumerate_1 _) (F.newCall_enumerate_1 _) (F.args_object_init_2 · _) F.entry_enumerate_new (enum_made B) ⟨at_v, ?_⟩
  have up : (s.heap.push o).objs.size = s.heap.objs.size + 1 := Heap.size_push _ _
  have at_e := Heap.get?_push_size (s.heap.push o) (o := { cls := .type "enumerate", data := .fields #[.none, .bool false, .ref s.heap.objs.size, rawInt 0, .none, .none] }) rfl
  rw [up] at at_e
  show _ ∧ _
  rw [up]
  exact ⟨⟨_, at_e, rfl⟩, k _ at_e (Heap.get?_push_of_some _ (Heap.get?_push_size _ B.free)) fun b u q => Heap.get?_push_of_some _ (Heap.get?_push_of_some _ q)⟩
def iEn (K : PySem.W.Frag) (ta : TA) : TI := fun σ H R => ta σ H fun vs H1 => ∃ S xs, vs = [.ref S.ad] ∧ SrcOk K H1 S xs ∧ (xs.length ≤ sizeLine → R (Ien K S) H1)
theorem pi_en {X : Cx} {e : Expr} {ta : TA} {p pos tpos : Pos} {elts : List Expr} {kk : Nat} (hg : Gl X "enumerate") (hm : X.mg "enumerate" = none) (ha : PA X [e] ta) (hs : starEach [e] X.env = [(false, eval e X.env)] := by rfl) :
    PI X (.Tuple elts kk tpos) (.Call (.Name "enumerate" p) [e] [] pos) (iEn X.K ta) :=
  pi_class hg hm boot_enumerate ha hs rfl (by decide) (by decide) fun pins s σ H R vs us I r ⟨S, xs, ev, ox, q⟩ => by
    subst ev
    obtain _ | ⟨rfl, _ | _⟩ := r
    obtain ⟨as, at1, _⟩ := src_all I ox
    obtain ⟨_, _, _, z1⟩ := src_get I ox
    have b1 := Src.lt at1
    exact enum_starts (Src.begins S as) at1 fun h' he h1 kept => wpAny_pyIter_enum he ⟨_, _, _, _, H, rfl, I.kept (t' := s.toks) kept,
      turn_en (Nat.ne_of_lt b1) (Nat.succ_ne_self _) (Nat.ne_of_gt (Nat.lt_succ_of_lt b1)), ⟨⟨_, he⟩, Src.iter_of h1⟩, all_new I [1, 0], q z1⟩

def seqOf : PyData → Option (List PyData)
  | .list xs => some xs
  | .tuple xs => some xs
  | _ => none
def triosD : List PyData → List PyData → List PyData → List PyData
  | x :: xs, y :: ys, z :: zs => .tuple [x, y, z] :: triosD xs ys zs
  | _, _, _ => []
def numbered : Nat → List PyData → List PyData
  | _, [] => []
  | n, x :: xs => .tuple [.int (n : Int), x] :: numbered (n + 1) xs
theorem numbered_len : ∀ n xs, (numbered n xs).length = xs.length
  | _, [] => rfl
  | n, x :: xs => by simp [numbered, numbered_len (n + 1) xs]
theorem numbered_get : ∀ (n : Nat) (xs : List PyData) (i : Nat), (numbered n xs)[i]? = (xs[i]?).map fun x => .tuple [.int ((n + i : Nat) : Int), x]
  | _, [], i => by simp [numbered]
  | n, x :: xs, 0 => by simp [numbered]
  | n, x :: xs, i + 1 => by
    simp only [numbered, List.getElem?_cons_succ, numbered_get (n + 1) xs i]
    rw [show n + 1 + i = n + (i + 1) by omega]
theorem dn_src {K : PySem.W.Frag} {G : Hp} {v : V} {d : PyData} {xs : List PyData} (dn : Dn K G v d) (h : seqOf d = some xs) : ∃ S vs, v = .ref (Src.ad S) ∧ DnL K G vs xs ∧ ∀ G2 H, Same G G2 → Same G2 H → SrcOk K H S vs := by
  cases dn with
  | lst hs t => cases h; exact ⟨.l _, _, rfl, t, fun G2 H s1 s2 => SqL.of (s2 _ _ (s1 _ _ hs))⟩
  | tup hs t => cases h; exact ⟨.t _, _, rfl, t, fun G2 H s1 s2 => sqT_mono s2 (sqT_mono s1 hs.sq)⟩
  | _ => cases h
theorem pair_new {K : PySem.W.Frag} {B G H : Hp} {δ : DS} {σ : L2.St} {p : Addr} {xs : List V} {ds : List PyData} {o : Obj} (hd : o.dict = none) (rel : Rel K B G δ σ H) (np : H p = none) (t : DnL K G xs ds) : ∃ G3, Same G G3 ∧ Rel K B G3 δ σ (upd H p (tupH o xs)) ∧ Dn K G3 (.ref p) (.tuple ds) := by
  obtain ⟨rel3, s3, at3⟩ := rel.laidT (xs := xs) np hd
  exact ⟨_, s3, rel3, Dn.tup at3 (t.mono s3)⟩
theorem walk_en {K : PySem.W.Frag} {G : Hp} {S : Src} {vs : List V} {xs : List PyData} (h1 : ∀ G2 H, Same G G2 → Same G2 H → SrcOk K H S vs) (t1 : DnL K G vs xs) : WalkD K (Ien K S) G (numbered 0 xs) := fun B G2 δ σ H s rel => by
  have q1 := h1 G2 H s rel.sg
  have l1 := t1.len
  rw [numbered_len]
  refine ⟨fun i hi => ⟨vs, vs[i]'(by omega), q1, List.getElem?_eq_getElem (by omega)⟩, ⟨vs, q1, by omega⟩, fun i x d H' hd y => ?_⟩
  obtain ⟨p, o, x, hd', rfl, np, rfl, y1⟩ := y
  rw [numbered_get] at hd
  cases e1 : xs[i]? with
  | none => rw [e1] at hd; cases hd
  | some d1 =>
    rw [e1] at hd
    cases hd
    obtain ⟨v, hv, dv⟩ := t1.get e1
    rw [y1 vs q1] at hv; cases hv
    refine pair_new hd' rel np (.cons ?_ (.cons (dv.mono s) .nil))
    rw [Nat.zero_add]; exact Dn.int _
def iZip2 (w : DA) : DL := fun δ R => w δ fun os δ1 => lkL os δ1 fun ds δ2 => match ds with
  | [a, b] => ∃ xs ys, seqOf a = some xs ∧ seqOf b = some ys ∧ R (pairsD xs ys) δ2
  | _ => False
def iZip3 (w : DA) : DL := fun δ R => w δ fun os δ1 => lkL os δ1 fun ds δ2 => match ds with
  | [a, b, c] => ∃ xs ys zs, seqOf a = some xs ∧ seqOf b = some ys ∧ seqOf c = some zs ∧ R (triosD xs ys zs) δ2
  | _ => False
def iEnumD (w : DA) : DL := fun δ R => w δ fun os δ1 => lkL os δ1 fun ds δ2 => match ds with
  | [a] => ∃ xs, seqOf a = some xs ∧ R (numbered 0 xs) δ2
  | _ => False
theorem DnL.one {K : PySem.W.Frag} {G : Hp} {vs : List V} {d : PyData} (h : DnL K G vs [d]) : ∃ v, vs = [v] ∧ Dn K G v d := by
  cases h with | cons a b => cases b; exact ⟨_, rfl, a⟩
theorem DnL.two {K : PySem.W.Frag} {G : Hp} {vs : List V} {d e : PyData} (h : DnL K G vs [d, e]) : ∃ v u, vs = [v, u] ∧ Dn K G v d ∧ Dn K G u e := by
  cases h with | cons a b => obtain ⟨u, rfl, c⟩ := b.one; exact ⟨_, _, rfl, a, c⟩
section
variable {X : Cx} {pos tpos : Pos} {elts : List Expr} {kk : Nat} {p : Pos}
theorem ji_enum {e : Expr} {w : DA} (hg : Gl X "enumerate") (hm : X.mg "enumerate" = none) (ha : JA X [e] w) (hs : starEach [e] X.env = [(false, eval e X.env)] := by rfl) : JI X (.Tuple elts kk tpos) (.Call (.Name "enumerate" p) [e] [] pos) (iEnumD w) :=
  pi_le (pi_en hg hm ha hs) fun pins s σ H R I ⟨B, G, δ, R', rel, hw, k⟩ => ⟨B, G, δ, _, rel, hw, fun vs H1 G1 os δ1 r1 s1 rel1 ok1 => by
    obtain ⟨G2, δ2, ds, q, s2, rel2, t⟩ := lkL_ok rel1 ok1 r1
    match ds, q with
    | [a], ⟨xs, ea, q⟩ =>
      obtain ⟨v, rfl, da⟩ := t.one
      obtain ⟨S, ws, rfl, t1, k1⟩ := dn_src da ea
      refine ⟨S, ws, rfl, k1 _ _ (Same.refl _) rel2.sg, fun z1 => k _ H1 G2 _ δ2 q (s1.trans s2) rel2 (walk_en k1 t1) ?_⟩
      rw [numbered_len, ← t1.len]; exact z1⟩
end
end DL
set_option Elab.async false
set_option linter.all false
set_option maxRecDepth 100000
set_option maxHeartbeats 4000000
universe u
namespace DL
open PySem PySem.Spec PyProof.Rows L2
variable [Tb]

inductive Stop {α : Sort u} (R : α) : Type where
  | mk
def comC (g : DTG) (t : DT) (e : DE) (vs : List Nat) (xs acc : List PyData) (δ : DS) (R : List PyData → DS → Prop) (_u : Stop R) : Prop := compIt g t e vs xs acc δ R
def forC (g : DTG) (b : DTS) (xs : List PyData) (δ : DS) (E : DEnds) (_u : Stop E) : Prop := forIt g b xs E δ
def whileC (c : DT) (b : DTS) (δ : DS) (E : DEnds) (_u : Stop E) : Prop := wWhile c b E δ
def ask (sp : DSp) (cs : List Cell) (R : PyData → List Cell → Prop) (_u : Stop R) : Prop := sp cs R
def onS {α : Type} (o : Option α) (k : α → Prop) (_u : Stop k) : Prop := match o with
  | some z => k z
  | none => False
omit [Tb] in
@[simp ↓] theorem onS_some {α : Type} (z : α) (k : α → Prop) (u : Stop k) : onS (some z) k u = k z := rfl
theorem ex_some {α : Type} (o : Option α) (k : α → Prop) : (∃ z, o = some z ∧ k z) = onS o k .mk := by
  cases o <;> simp [onS]
theorem onS_of {α : Type} {o : Option α} {z : α} {k : α → Prop} {u : Stop k} (h : o = some z) (q : k z) : onS o k u := by rw [h]; exact q
def onIs (ds : List PyData) (k : List Int → Prop) (_u : Stop k) : Prop := ∃ ns : List Int, ds = ns.map PyData.int ∧ k ns
def onBs (ds : List PyData) (k : List Bool → Prop) (_u : Stop k) : Prop := ∃ ns : List Bool, ds = ns.map PyData.bool ∧ k ns
theorem map_int_inj : ∀ {ns ms : List Int}, ns.map PyData.int = ms.map PyData.int → ns = ms
  | [], [], _ => rfl
  | [], _ :: _, h => by cases h
  | _ :: _, [], h => by cases h
  | n :: ns, m :: ms, h => by
    simp only [List.map_cons, List.cons.injEq] at h
    obtain ⟨h1, h2⟩ := h
    cases h1
    rw [map_int_inj h2]
theorem map_bool_inj : ∀ {ns ms : List Bool}, ns.map PyData.bool = ms.map PyData.bool → ns = ms
  | [], [], _ => rfl
  | [], _ :: _, h => by cases h
  | _ :: _, [], h => by cases h
  | n :: ns, m :: ms, h => by
    simp only [List.map_cons, List.cons.injEq] at h
    obtain ⟨h1, h2⟩ := h
    cases h1
    rw [map_bool_inj h2]
omit [Tb] in
@[simp ↓] theorem onIs_i (ns : List Int) (k : List Int → Prop) (u : Stop k) : onIs (ns.map PyData.int) k u = k ns :=
  propext ⟨fun ⟨ms, e, h⟩ => by rw [map_int_inj e]; exact h, fun h => ⟨ns, rfl, h⟩⟩
omit [Tb] in
@[simp ↓] theorem onIs_f {α : Type} (as : List α) (f : α → Int) (k : List Int → Prop) (u : Stop k) : onIs (as.map fun a => PyData.int (f a)) k u = k (as.map f) := by
  have := onIs_i (as.map f) k u
  rw [List.map_map] at this; exact this
omit [Tb] in
@[simp ↓] theorem onBs_i (ns : List Bool) (k : List Bool → Prop) (u : Stop k) : onBs (ns.map PyData.bool) k u = k ns :=
  propext ⟨fun ⟨ms, e, h⟩ => by rw [map_bool_inj e]; exact h, fun h => ⟨ns, rfl, h⟩⟩
omit [Tb] in
@[simp ↓] theorem onBs_f {α : Type} (as : List α) (f : α → Bool) (k : List Bool → Prop) (u : Stop k) : onBs (as.map fun a => PyData.bool (f a)) k u = k (as.map f) := by
  have := onBs_i (as.map f) k u
  rw [List.map_map] at this; exact this
def allTr (bs : List Bool) : Bool := bs.all id
def anyTr (bs : List Bool) : Bool := bs.any id
def onD (o : Option Cell) (k : PyData → Prop) (_u : Stop k) : Prop := match o with
  | some (.d z) => k z
  | _ => False
omit [Tb] in
@[simp ↓] theorem onD_d (z : PyData) (k : PyData → Prop) (u : Stop k) : onD (some (.d z)) k u = k z := rfl
theorem ex_d (o : Option Cell) (k : PyData → Prop) : (∃ z, o = some (.d z) ∧ k z) = onD o k .mk := by
  cases o with
  | none => simp [onD]
  | some c => cases c <;> simp [onD]
def asB (x : PyData) (k : Bool → Prop) (_u : Stop k) : Prop := match x with
  | .bool b => k b
  | _ => False
def asI (x : PyData) (k : Int → Prop) (_u : Stop k) : Prop := match x with
  | .int b => k b
  | _ => False
omit [Tb] in
@[simp ↓] theorem asB_b (b : Bool) (k : Bool → Prop) (u : Stop k) : asB (.bool b) k u = k b := rfl
omit [Tb] in
@[simp ↓] theorem asI_i (b : Int) (k : Int → Prop) (u : Stop k) : asI (.int b) k u = k b := rfl
theorem ex_bool (x : PyData) (k : Bool → Prop) : (∃ b, x = .bool b ∧ k b) = asB x k .mk := by
  cases x <;> simp [asB]
theorem ex_int (x : PyData) (k : Int → Prop) : (∃ b, x = .int b ∧ k b) = asI x k .mk := by
  cases x <;> simp [asI]
omit [Tb] in
@[simp ↓] theorem wOfL_ap (w : DL) (δ : DS) (R : Opd → DS → Prop) : wOfL w δ R = (w δ fun xs δ' => R (.d (.list xs)) δ') := rfl
def varC (o : Option Cell) (i : Nat) (k : Opd → Prop) (_u : Stop k) : Prop := match o with
  | some (.d x) => k (.d x)
  | some .em => False
  | none => False
  | _ => k (.s i)
omit [Tb] in
@[simp ↓] theorem varC_d (x : PyData) (i : Nat) (k : Opd → Prop) (u : Stop k) : varC (some (.d x)) i k u = k (.d x) := rfl
omit [Tb] in
@[simp ↓] theorem varC_ol (a : Addr) (xs : List PyData) (i : Nat) (k : Opd → Prop) (u : Stop k) : varC (some (.ol a xs)) i k u = k (.s i) := rfl
omit [Tb] in
@[simp ↓] theorem varC_dk (a b c : Addr) (i : Nat) (k : Opd → Prop) (u : Stop k) : varC (some (.dk a b c)) i k u = k (.s i) := rfl
omit [Tb] in
@[simp ↓] theorem varC_dx (a b c : Addr) (xs : List Int) (n : Int) (ys : List Int) (i : Nat) (k : Opd → Prop) (u : Stop k) : varC (some (.dx a b c xs n ys)) i k u = k (.s i) := rfl
omit [Tb] in
@[simp ↓] theorem varC_scr (a : Addr) (ns : List Int) (i : Nat) (k : Opd → Prop) (u : Stop k) : varC (some (.scr a ns)) i k u = k (.s i) := rfl
def useC (o : Option Cell) (k : PyData → Prop) (_u : Stop k) : Prop := match o with
  | some (.d x) => k x
  | some (.ol _ xs) => k (.list xs)
  | _ => False
omit [Tb] in
@[simp ↓] theorem useC_d (x : PyData) (k : PyData → Prop) (u : Stop k) : useC (some (.d x)) k u = k x := rfl
omit [Tb] in
@[simp ↓] theorem useC_ol (a : Addr) (xs : List PyData) (k : PyData → Prop) (u : Stop k) : useC (some (.ol a xs)) k u = k (.list xs) := rfl
def lkC (o : Option Cell) (k l : PyData → Prop) (_u : Stop k) (_v : Stop l) : Prop := match o with
  | some (.d x) => k x
  | some (.ol _ xs) => l (.list xs)
  | _ => False
omit [Tb] in
@[simp ↓] theorem lkC_d (x : PyData) (k l : PyData → Prop) (u : Stop k) (v : Stop l) : lkC (some (.d x)) k l u v = k x := rfl
omit [Tb] in
@[simp ↓] theorem lkC_ol (a : Addr) (xs : List PyData) (k l : PyData → Prop) (u : Stop k) (v : Stop l) : lkC (some (.ol a xs)) k l u v = l (.list xs) := rfl
def olC (o : Option Cell) (k : Addr → List PyData → Prop) (_u : Stop k) : Prop := match o with
  | some (.ol a xs) => k a xs
  | _ => False
omit [Tb] in
@[simp ↓] theorem olC_ol (a : Addr) (xs : List PyData) (k : Addr → List PyData → Prop) (u : Stop k) : olC (some (.ol a xs)) k u = k a xs := rfl
def asS (x : PyData) (k : List PyData → Prop) (_u : Stop k) : Prop := match x with
  | .tuple xs => k xs
  | .list xs => k xs
  | _ => False
omit [Tb] in
@[simp ↓] theorem asS_t (xs : List PyData) (k : List PyData → Prop) (u : Stop k) : asS (.tuple xs) k u = k xs := rfl
omit [Tb] in
@[simp ↓] theorem asS_l (xs : List PyData) (k : List PyData → Prop) (u : Stop k) : asS (.list xs) k u = k xs := rfl
omit [Tb] in
@[simp ↓] theorem wVar_ap (i : Nat) (δ : DS) (R : Opd → DS → Prop) : wVar i δ R = varC δ[i]? i (fun o => R o δ) .mk := rfl
omit [Tb] in
@[simp ↓] theorem wC_ap (x : PyData) (δ : DS) (R : Opd → DS → Prop) : wC x δ R = (R (.d x) δ) := rfl
omit [Tb] in
@[simp ↓] theorem wNil_ap (δ : DS) (R : List Opd → DS → Prop) : wNil  δ R = (R [] δ) := rfl
omit [Tb] in
@[simp ↓] theorem wCons_ap (w : DE) (r : DA) (δ : DS) (R : List Opd → DS → Prop) : wCons w r δ R = (w δ fun o δ1 => r δ1 fun os δ2 => R (o :: os) δ2) := rfl
omit [Tb] in
@[simp ↓] theorem wOp_ap (p : P2) (wa wb : DE) (δ : DS) (R : Opd → DS → Prop) : wOp p wa wb δ R = (wa δ fun o1 δ1 => wb δ1 fun o2 δ2 => use o1 δ2 fun x => use o2 δ2 fun y => p x y fun z => R (.d z) δ2) := rfl
omit [Tb] in
@[simp ↓] theorem wB_ap (w : DE) (δ : DS) (R : Bool → DS → Prop) : wB w δ R = (w δ fun o δ1 => use o δ1 fun x => asB x (fun b => R b δ1) .mk) := by
  unfold wB; simp only [← ex_bool, ← ex_int]
omit [Tb] in
@[simp ↓] theorem wChain_ap (p q : P2) (wa wb wc : DE) (δ : DS) (R : Opd → DS → Prop) : wChain p q wa wb wc δ R = (wa δ fun o1 δ1 => wb δ1 fun o2 δ2 => use o1 δ2 fun x => use o2 δ2 fun y => p x y fun z => asB z (fun k =>
  if k = true then wc δ2 fun o3 δ3 => use o2 δ3 fun y => use o3 δ3 fun w => q y w fun z => R (.d z) δ3 else R (.d (.bool false)) δ2) .mk) := by
  unfold wChain; simp only [← ex_bool, ← ex_int]
omit [Tb] in
@[simp ↓] theorem wAnd_ap (t u : DT) (δ : DS) (R : Bool → DS → Prop) : wAnd t u δ R = (t δ fun k δ1 => if k = true then u δ1 R else R false δ1) := rfl
omit [Tb] in
@[simp ↓] theorem wOr_ap (t u : DT) (δ : DS) (R : Bool → DS → Prop) : wOr t u δ R = (t δ fun k δ1 => if k = true then R true δ1 else u δ1 R) := rfl
omit [Tb] in
@[simp ↓] theorem wNot_ap (t : DT) (δ : DS) (R : Bool → DS → Prop) : wNot t δ R = (t δ fun k δ1 => R (!k) δ1) := rfl
omit [Tb] in
@[simp ↓] theorem wAndV_ap (w u : DE) (δ : DS) (R : Opd → DS → Prop) : wAndV w u δ R = (w δ fun o δ1 => use o δ1 fun x => asB x (fun k => if k = true then u δ1 R else R (.d (.bool false)) δ1) .mk) := by
  unfold wAndV; simp only [← ex_bool, ← ex_int]
omit [Tb] in
@[simp ↓] theorem wOrV_ap (w u : DE) (δ : DS) (R : Opd → DS → Prop) : wOrV w u δ R = (w δ fun o δ1 => use o δ1 fun x => asB x (fun k => if k = true then R (.d (.bool true)) δ1 else u δ1 R) .mk) := by
  unfold wOrV; simp only [← ex_bool, ← ex_int]
omit [Tb] in
@[simp ↓] theorem wNotV_ap (w : DE) (δ : DS) (R : Opd → DS → Prop) : wNotV w δ R = (w δ fun o δ1 => use o δ1 fun x => asB x (fun k => R (.d (.bool (!k))) δ1) .mk) := by
  unfold wNotV; simp only [← ex_bool, ← ex_int]
omit [Tb] in
@[simp ↓] theorem wIfE_ap (t : DT) (wa wb : DE) (δ : DS) (R : Opd → DS → Prop) : wIfE t wa wb δ R = (t δ fun k δ1 => if k = true then wa δ1 R else wb δ1 R) := rfl
omit [Tb] in
@[simp ↓] theorem wUn_ap (p : PyData → (PyData → Prop) → Prop) (w : DE) (δ : DS) (R : Opd → DS → Prop) : wUn p w δ R = (w δ fun o δ1 => use o δ1 fun x => p x fun z => R (.d z) δ1) := rfl
omit [Tb] in
@[simp ↓] theorem wTup_ap (w : DA) (δ : DS) (R : Opd → DS → Prop) : wTup w δ R = (w δ fun os δ1 => lkL os δ1 fun xs δ2 => xs.length ≤ 1000 ∧ R (.d (.tuple xs)) δ2) := rfl
omit [Tb] in
@[simp ↓] theorem wLst_ap (w : DA) (δ : DS) (R : List PyData → DS → Prop) : wLst w δ R = (w δ fun os δ1 => lkL os δ1 fun xs δ2 => xs.length ≤ 1000 ∧ R xs δ2) := rfl
omit [Tb] in
@[simp ↓] theorem wDic_ap (δ : DS) (R : Opd → DS → Prop) : wDic  δ R = (R (.d (.dict [])) δ) := rfl
omit [Tb] in
@[simp ↓] theorem wFn_ap (p : PN) (w : DA) (δ : DS) (R : Opd → DS → Prop) : wFn p w δ R = (w δ fun os δ1 => useL os δ1 fun xs => p xs fun z => R (.d z) δ1) := rfl
omit [Tb] in
@[simp ↓] theorem wFnL_ap (p : List PyData → (List PyData → Prop) → Prop) (w : DA) (δ : DS) (R : List PyData → DS → Prop) : wFnL p w δ R = (w δ fun os δ1 => useL os δ1 fun xs => p xs fun z => R z δ1) := rfl
omit [Tb] in
@[simp ↓] theorem wOpL_ap (p : P2L) (wa wb : DE) (δ : DS) (R : List PyData → DS → Prop) : wOpL p wa wb δ R = (wa δ fun o1 δ1 => wb δ1 fun o2 δ2 => use o1 δ2 fun x => use o2 δ2 fun y => p x y fun z => R z δ2) := rfl
omit [Tb] in
@[simp ↓] theorem wNoP_ap (δ : DS) (R : Option Int → DS → Prop) : wNoP  δ R = (R none δ) := rfl
omit [Tb] in
@[simp ↓] theorem wPart_ap (w : DE) (δ : DS) (R : Option Int → DS → Prop) : wPart w δ R = (w δ fun o δ1 => use o δ1 fun x => asI x (fun i => R (some i) δ1) .mk) := by
  unfold wPart; simp only [← ex_bool, ← ex_int]
omit [Tb] in
@[simp ↓] theorem wSl_ap (p : P3) (w : DE) (l h : DO) (δ : DS) (R : Opd → DS → Prop) : wSl p w l h δ R = (w δ fun o δ1 => l δ1 fun i δ2 => h δ2 fun j δ3 => use o δ3 fun x => p x i j fun z => R (.d z) δ3) := rfl
omit [Tb] in
@[simp ↓] theorem pSub_ap (i j : Int) (R : PyData → Prop) : pSub (.int i) (.int j) R = (R (.int (i - j))) := rfl
omit [Tb] in
@[simp ↓] theorem pMul_intiintj (i : Int) (j : Int) (R : PyData → Prop) : pMul (.int i) (.int j) R = ((CMul i j ∨ CMulW i j) ∧ R (.int (i * j))) := rfl
omit [Tb] in
@[simp ↓] theorem pMul_listxsintk (xs : List PyData) (k : Int) (R : PyData → Prop) : pMul (.list xs) (.int k) R = (0 ≤ k ∧ xs.length * k.toNat ≤ 1000000 ∧ k < 1000000 ∧ R (.list (List.replicate k.toNat xs).flatten)) := rfl
omit [Tb] in
@[simp ↓] theorem pDiv_ap (i j : Int) (R : PyData → Prop) : pDiv (.int i) (.int j) R = ((0 < j ∧ j.natAbs.log2 < 9000) ∧ R (.int (i / j))) := rfl
omit [Tb] in
@[simp ↓] theorem pMod_ap (i j : Int) (R : PyData → Prop) : pMod (.int i) (.int j) R = (0 < j ∧ R (.int (i % j))) := rfl
omit [Tb] in
@[simp ↓] theorem pPow_ap (i j : Int) (R : PyData → Prop) : pPow (.int i) (.int j) R = (CPow i j ∧ R (.int (i ^ j.toNat))) := rfl
omit [Tb] in
@[simp ↓] theorem pShl_ap (i j : Int) (R : PyData → Prop) : pShl (.int i) (.int j) R = (CPow i j ∧ R (.int (i * 2 ^ j.toNat))) := rfl
omit [Tb] in
@[simp ↓] theorem pAnd_ap (i j : Int) (R : PyData → Prop) : pAnd (.int i) (.int j) R = (R (.int (Builtin.bitAnd i j))) := rfl
omit [Tb] in
@[simp ↓] theorem pOr_ap (i j : Int) (R : PyData → Prop) : pOr (.int i) (.int j) R = (R (.int (Builtin.bitOr i j))) := rfl
omit [Tb] in
@[simp ↓] theorem pLt_intiintj (i : Int) (j : Int) (R : PyData → Prop) : pLt (.int i) (.int j) R = (R (.bool (decide (i < j)))) := rfl
omit [Tb] in
@[simp ↓] theorem pLe_ap (i j : Int) (R : PyData → Prop) : pLe (.int i) (.int j) R = (R (.bool (decide (i ≤ j)))) := rfl
omit [Tb] in
@[simp ↓] theorem pGt_ap (i j : Int) (R : PyData → Prop) : pGt (.int i) (.int j) R = (R (.bool (decide (j < i)))) := rfl
omit [Tb] in
@[simp ↓] theorem pGe_ap (i j : Int) (R : PyData → Prop) : pGe (.int i) (.int j) R = (R (.bool (decide (j ≤ i)))) := rfl
omit [Tb] in
@[simp ↓] theorem pAdd_intiintj (i : Int) (j : Int) (R : PyData → Prop) : pAdd (.int i) (.int j) R = (R (.int (i + j))) := rfl
omit [Tb] in
@[simp ↓] theorem pAdd_strastrb (a : Str) (b : Str) (R : PyData → Prop) : pAdd (.str a) (.str b) R = (a.length + b.length ≤ 1000000 ∧ R (.str (a ++ b))) := rfl
omit [Tb] in
@[simp ↓] theorem pAdd_tuplexstupleys (xs : List PyData) (ys : List PyData) (R : PyData → Prop) : pAdd (.tuple xs) (.tuple ys) R = (xs.length + ys.length ≤ 1000000 ∧ R (.tuple (xs ++ ys))) := rfl
omit [Tb] in
@[simp ↓] theorem pAdd_listxslistys (xs : List PyData) (ys : List PyData) (R : PyData → Prop) : pAdd (.list xs) (.list ys) R = (xs.length + ys.length ≤ 1000000 ∧ R (.list (xs ++ ys))) := rfl
omit [Tb] in
@[simp ↓] theorem pIs_boolaboolb (a : Bool) (b : Bool) (R : PyData → Prop) : pIs (.bool a) (.bool b) R = (R (.bool (decide (a = b)))) := rfl
omit [Tb] in
@[simp ↓] theorem pIsNot_boolaboolb (a : Bool) (b : Bool) (R : PyData → Prop) : pIsNot (.bool a) (.bool b) R = (R (.bool (!decide (a = b)))) := rfl
omit [Tb] in
@[simp ↓] theorem pIx_l (ds : List PyData) (i : Int) (R : PyData → Prop) : pIx (.list ds) (.int i) R = onS (atI ds i) R .mk := by rw [← ex_some]; rfl
omit [Tb] in
@[simp ↓] theorem pIx_t (ds : List PyData) (i : Int) (R : PyData → Prop) : pIx (.tuple ds) (.int i) R = onS (atI ds i) R .mk := by rw [← ex_some]; rfl
omit [Tb] in
@[simp ↓] theorem pIx_s (z : Str) (i : Int) (R : PyData → Prop) : pIx (.str z) (.int i) R = (z.length ≤ 1000000 ∧ onS (atI z.cps.toList i) (fun c => R (.str ⟨#[c]⟩)) .mk) := by rw [← ex_some]; rfl
omit [Tb] in
@[simp ↓] theorem mE_ap (w : DE) (δ : DS) (R : Cell → DS → Prop) : mE w δ R = (w δ fun o δ1 => lk o δ1 fun x δ2 => R (.d x) δ2) := rfl
omit [Tb] in
@[simp ↓] theorem mL_ap (w : DL) (δ : DS) (R : Cell → DS → Prop) : mL w δ R = (w δ fun xs δ1 => ∀ a, R (.ol a xs) δ1) := rfl
omit [Tb] in
@[simp ↓] theorem msNil_ap (δ : DS) (R : List Cell → DS → Prop) : msNil  δ R = (R [] δ) := rfl
omit [Tb] in
@[simp ↓] theorem msCons_ap (w : DM) (r : DMs) (δ : DS) (R : List Cell → DS → Prop) : msCons w r δ R = (w δ fun c δ1 => r δ1 fun cs δ2 => R (c :: cs) δ2) := rfl
omit [Tb] in
@[simp ↓] theorem wNext_ap (E : DEnds) (δ : DS) : wNext  E δ = (E.nx δ) := rfl
omit [Tb] in
@[simp ↓] theorem wSeq_ap (t u : DTS) (E : DEnds) (δ : DS) : wSeq t u E δ = (t { E with nx := u E } δ) := rfl
omit [Tb] in
@[simp ↓] theorem wBrk_ap (E : DEnds) (δ : DS) : wBrk  E δ = (E.bk δ) := rfl
omit [Tb] in
@[simp ↓] theorem wCnt_ap (E : DEnds) (δ : DS) : wCnt  E δ = (E.ct δ) := rfl
omit [Tb] in
@[simp ↓] theorem wRet_ap (w : DE) (E : DEnds) (δ : DS) : wRet w E δ = (w δ fun o δ1 => lk o δ1 fun x δ2 => E.rt x δ2) := rfl
omit [Tb] in
@[simp ↓] theorem wRetN_ap (E : DEnds) (δ : DS) : wRetN  E δ = (E.rt .none δ) := rfl
omit [Tb] in
@[simp ↓] theorem wIf_ap (c : DT) (t u : DTS) (E : DEnds) (δ : DS) : wIf c t u E δ = (c δ fun b δ1 => if b = true then t E δ1 else u E δ1) := rfl
omit [Tb] in
@[simp ↓] theorem wNever_ap (x0 : DEnds) (x1 : DS) : wNever  x0 x1 = (False) := rfl
omit [Tb] in
@[simp ↓] theorem wDrop_ap (w : DE) (E : DEnds) (δ : DS) : wDrop w E δ = (w δ fun _ δ1 => E.nx δ1) := rfl
omit [Tb] in
@[simp ↓] theorem wSet_ap (i : Nat) (w : DM) (E : DEnds) (δ : DS) : wSet i w E δ = (w δ fun c δ1 => E.nx (δ1.set i c)) := rfl
omit [Tb] in
@[simp ↓] theorem wPar2_ap (i j : Nat) (w : DMs) (E : DEnds) (δ : DS) : wPar2 i j w E δ = (w δ fun cs δ1 => match cs with
  | [c, d] => E.nx ((δ1.set i c).set j d)
  | _ => False) := by
  unfold wPar2
  congr 1; funext cs δ1
  match cs with
  | [] => simp
  | [c] => simp
  | [c, d] => exact propext ⟨fun ⟨c', d', e, h⟩ => by cases e; exact h, fun h => ⟨c, d, rfl, h⟩⟩
  | c :: d :: e :: r => simp
omit [Tb] in
@[simp ↓] theorem wAug_ap (i : Nat) (p : P2) (w : DE) (E : DEnds) (δ : DS) : wAug i p w E δ = onD δ[i]? (fun x => w δ fun o δ1 => use o δ1 fun y => p x y fun z => E.nx (δ1.set i (.d z))) .mk := by
  rw [← ex_d]; rfl
omit [Tb] in
@[simp ↓] theorem gN_ap (i : Nat) (x : PyData) (δ : DS) (R : DS → Prop) : gN i x δ R = (R (δ.set i (.d x))) := rfl
omit [Tb] in
@[simp ↓] theorem gsNil_ap (xs : List PyData) (δ : DS) (R : DS → Prop) : gsNil  xs δ R = (match xs with
  | [] => R δ
  | _ => False) := rfl
omit [Tb] in
@[simp ↓] theorem gsCons_ap (g : DTG) (r : DTGs) (xs : List PyData) (δ : DS) (R : DS → Prop) : gsCons g r xs δ R = (match xs with
  | x :: xs => g x δ fun δ1 => r xs δ1 R
  | [] => False) := rfl
omit [Tb] in
@[simp ↓] theorem gT_ap (r : DTGs) (x : PyData) (δ : DS) (R : DS → Prop) : gT r x δ R = (match x with
  | .tuple xs => r xs δ R
  | _ => False) := rfl
omit [Tb] in
@[simp ↓] theorem iSeq_ap (w : DE) (δ : DS) (R : List PyData → DS → Prop) : iSeq w δ R = (w δ fun o δ1 => lk o δ1 fun x δ2 => asS x (fun xs => R xs δ2) .mk) := rfl
def rng1 (xs : List PyData) (k : Int → Prop) (_u : Stop k) : Prop := ∃ j, xs = [PyData.int j] ∧ k j
def rng2 (xs : List PyData) (k : Int → Int → Prop) (_u : Stop k) : Prop := ∃ i j, xs = [PyData.int i, PyData.int j] ∧ k i j
omit [Tb] in
@[simp ↓] theorem rng1_i (j : Int) (k : Int → Prop) (u : Stop k) : rng1 [.int j] k u = k j := propext ⟨fun ⟨_, e, h⟩ => by cases e; exact h, fun h => ⟨j, rfl, h⟩⟩
omit [Tb] in
@[simp ↓] theorem rng2_i (i j : Int) (k : Int → Int → Prop) (u : Stop k) : rng2 [.int i, .int j] k u = k i j := propext ⟨fun ⟨_, _, e, h⟩ => by cases e; exact h, fun h => ⟨i, j, rfl, h⟩⟩
omit [Tb] in
@[simp ↓] theorem iRange1_ap (w : DA) (δ : DS) (R : List PyData → DS → Prop) : iRange1 w δ R = (w δ fun os δ1 => useL os δ1 fun xs => rng1 xs (fun j => -1000000 ≤ j ∧ j ≤ 1000000 ∧ R (nums 0 j.toNat) δ1) .mk) := rfl
omit [Tb] in
@[simp ↓] theorem iRange2_ap (w : DA) (δ : DS) (R : List PyData → DS → Prop) : iRange2 w δ R = (w δ fun os δ1 => useL os δ1 fun xs => rng2 xs (fun i j => (-1000000 ≤ i ∧ i ≤ 1000000 ∧ -1000000 ≤ j ∧ j ≤ 1000000) ∧ R (nums i (j - i).toNat) δ1) .mk) := rfl
omit [Tb] in
@[simp ↓] theorem wFor_ap (wi : DL) (g : DTG) (b : DTS) (E : DEnds) (δ : DS) : wFor wi g b E δ = (wi δ fun xs δ1 => forC g b xs δ1 E .mk) := rfl
omit [Tb] in
@[simp ↓] theorem wWhile_ap (c : DT) (b : DTS) (E : DEnds) (δ : DS) : wWhile c b E δ = whileC c b δ E .mk := rfl
omit [Tb] in
@[simp ↓] theorem wComp_ap (wi : DL) (g : DTG) (t : DT) (e : DE) (vs : List Nat) (δ : DS) (R : List PyData → DS → Prop) : wComp wi g t e vs δ R = (wi δ fun xs δ1 => comC g t e vs xs [] (wipeD δ1 vs) (fun ys δ2 => R ys (backD δ1 δ2 vs)) .mk) := rfl
omit [Tb] in
@[simp ↓] theorem wAppend_ap (i : Nat) (w : DE) (E : DEnds) (δ : DS) : wAppend i w E δ = (isOl δ i ∧ w δ fun o δ1 => lk o δ1 fun y δ2 => olC δ2[i]? (fun a xs => xs.length ≤ 1000000 ∧ E.nx (δ2.set i (.ol a (xs ++ [y])))) .mk) := rfl
omit [Tb] in
@[simp ↓] theorem wExtend_ap (i : Nat) (w : DE) (E : DEnds) (δ : DS) : wExtend i w E δ = (isOl δ i ∧ w δ fun o δ1 => use o δ1 fun y => ∃ ys, y = .list ys ∧ olC δ1[i]? (fun a xs => xs.length + ys.length ≤ 1000000 ∧ E.nx (δ1.set i (.ol a (xs ++ ys)))) .mk) := rfl
omit [Tb] in
@[simp ↓] theorem wPut_ap (i : Nat) (we wi : DE) (E : DEnds) (δ : DS) : wPut i we wi E δ = (we δ fun o δ1 => lk o δ1 fun y δ2 => isOl δ2 i ∧ wi δ2 fun oj δ3 => use oj δ3 fun j => asI j (fun j => olC δ3[i]? (fun a xs => ∃ n, ixN xs.length j = some n ∧ E.nx (δ3.set i (.ol a (xs.set n y)))) .mk) .mk) := by
  unfold wPut
  congr 1; funext o δ1; congr 1; funext y δ2; congr 1; congr 1; funext oj δ3; congr 1; funext j
  cases j <;> simp only [asI]
  cases δ3[i]? with
  | none => rfl
  | some c => cases c <;> rfl
omit [Tb] in
@[simp ↓] theorem wPop_ap (i : Nat) (δ : DS) (R : Opd → DS → Prop) : wPop i δ R = olC δ[i]? (fun a xs => onS xs.getLast? (fun y => R (.d y) (δ.set i (.ol a xs.dropLast))) .mk) .mk := by
  unfold wPop
  cases δ[i]? with
  | none => rfl
  | some c => cases c <;> first | rfl | exact ex_some _ _
omit [Tb] in
@[simp ↓] theorem wCall_ap (m : List Bool) (sp : DSp) (w : DA) (δ : DS) (R : Opd → DS → Prop) : wCall m sp w δ R = (w δ fun os δ1 => lkM m os δ1 fun os' δ2 => (slotsOf os').Nodup ∧ ask sp (os'.map (cellOf δ2)) (fun x cs => R (.d x) (putBack os' cs δ2)) .mk) := rfl
omit [Tb] in
@[simp ↓] theorem iZip2_ap (w : DA) (δ : DS) (R : List PyData → DS → Prop) : iZip2 w δ R = (w δ fun os δ1 => lkL os δ1 fun ds δ2 => match ds with
  | [a, b] => onS (seqOf a) (fun xs => onS (seqOf b) (fun ys => R (pairsD xs ys) δ2) .mk) .mk
  | _ => False) := by
  unfold iZip2; simp only [← ex_some, ← exists_and_left] <;> rfl
omit [Tb] in
@[simp ↓] theorem iZip3_ap (w : DA) (δ : DS) (R : List PyData → DS → Prop) : iZip3 w δ R = (w δ fun os δ1 => lkL os δ1 fun ds δ2 => match ds with
  | [a, b, c] => onS (seqOf a) (fun xs => onS (seqOf b) (fun ys => onS (seqOf c) (fun zs => R (triosD xs ys zs) δ2) .mk) .mk) .mk
  | _ => False) := by
  unfold iZip3; simp only [← ex_some, ← exists_and_left] <;> rfl
omit [Tb] in
@[simp ↓] theorem iEnumD_ap (w : DA) (δ : DS) (R : List PyData → DS → Prop) : iEnumD w δ R = (w δ fun os δ1 => lkL os δ1 fun ds δ2 => match ds with
  | [a] => onS (seqOf a) (fun xs => R (numbered 0 xs) δ2) .mk
  | _ => False) := by
  unfold iEnumD; simp only [← ex_some] <;> rfl
omit [Tb] in
@[simp ↓] theorem use_d (x : PyData) (δ : DS) (k : PyData → Prop) : use (.d x) δ k = k x := rfl
omit [Tb] in
@[simp ↓] theorem use_s (i : Nat) (δ : DS) (k : PyData → Prop) : use (.s i) δ k = useC δ[i]? k .mk := rfl
omit [Tb] in
@[simp ↓] theorem lk_d (x : PyData) (δ : DS) (k : PyData → DS → Prop) : lk (.d x) δ k = k x δ := rfl
omit [Tb] in
@[simp ↓] theorem lk_s (i : Nat) (δ : DS) (k : PyData → DS → Prop) : lk (.s i) δ k = lkC δ[i]? (fun x => k x δ) (fun x => k x (δ.set i (.d x))) .mk .mk := by
  show (match δ[i]? with
    | some (.d x) => k x δ
    | some (.ol _ xs) => k (.list xs) (δ.set i (.d (.list xs)))
    | _ => False) = _
  unfold lkC
  cases δ[i]? with
  | none => rfl
  | some c => cases c <;> rfl
omit [Tb] in
@[simp ↓] theorem useL_nil (δ : DS) (k : List PyData → Prop) : useL [] δ k = k [] := rfl
omit [Tb] in
@[simp ↓] theorem useL_cons (o : Opd) (os : List Opd) (δ : DS) (k : List PyData → Prop) : useL (o :: os) δ k = (use o δ fun x => useL os δ fun xs => k (x :: xs)) := rfl
omit [Tb] in
@[simp ↓] theorem lkL_nil (δ : DS) (k : List PyData → DS → Prop) : lkL [] δ k = k [] δ := rfl
omit [Tb] in
@[simp ↓] theorem lkL_cons (o : Opd) (os : List Opd) (δ : DS) (k : List PyData → DS → Prop) : lkL (o :: os) δ k = (lk o δ fun x δ1 => lkL os δ1 fun xs δ2 => k (x :: xs) δ2) := rfl
omit [Tb] in
@[simp ↓] theorem lkM_nil (m : List Bool) (δ : DS) (k : List Opd → DS → Prop) : lkM m [] δ k = k [] δ := by unfold lkM; rfl
omit [Tb] in
@[simp ↓] theorem lkM_t (m : List Bool) (o : Opd) (os : List Opd) (δ : DS) (k : List Opd → DS → Prop) : lkM (true :: m) (o :: os) δ k = (lkM m os δ fun r δ' => k (o :: r) δ') := by
  conv => lhs; unfold lkM
  rfl
omit [Tb] in
@[simp ↓] theorem lkM_f (m : List Bool) (o : Opd) (os : List Opd) (δ : DS) (k : List Opd → DS → Prop) : lkM (false :: m) (o :: os) δ k = (lk o δ fun x δ1 => lkM m os δ1 fun r δ' => k (.d x :: r) δ') := by
  conv => lhs; unfold lkM
  rfl
omit [Tb] in
@[simp ↓] theorem lkM_0 (o : Opd) (os : List Opd) (δ : DS) (k : List Opd → DS → Prop) : lkM [] (o :: os) δ k = (lk o δ fun x δ1 => lkM [] os δ1 fun r δ' => k (.d x :: r) δ') := by
  conv => lhs; unfold lkM
  rfl
omit [Tb] in
@[simp] theorem cellOf_d (δ : DS) (x : PyData) : cellOf δ (.d x) = .d x := rfl
omit [Tb] in
@[simp] theorem cellOf_s (δ : DS) (i : Nat) : cellOf δ (.s i) = (δ[i]?).getD .em := rfl
omit [Tb] in
@[simp ↓] theorem putBack_nil (cs : List Cell) (δ : DS) : putBack [] cs δ = δ := by cases cs <;> rfl
omit [Tb] in
@[simp ↓] theorem putBack_s (i : Nat) (os : List Opd) (c : Cell) (cs : List Cell) (δ : DS) : putBack (.s i :: os) (c :: cs) δ = putBack os cs (δ.set i c) := rfl
omit [Tb] in
@[simp ↓] theorem putBack_d (x : PyData) (os : List Opd) (c : Cell) (cs : List Cell) (δ : DS) : putBack (.d x :: os) (c :: cs) δ = putBack os cs δ := rfl
omit [Tb] in
@[simp] theorem slotsOf_nil : slotsOf [] = [] := rfl
omit [Tb] in
@[simp] theorem slotsOf_s (i : Nat) (os : List Opd) : slotsOf (.s i :: os) = i :: slotsOf os := rfl
omit [Tb] in
@[simp] theorem slotsOf_d (x : PyData) (os : List Opd) : slotsOf (.d x :: os) = slotsOf os := rfl
omit [Tb] in
@[simp ↓] theorem pNeg_i (i : Int) (R : PyData → Prop) : pNeg (.int i) R = R (.int (-i)) := rfl
omit [Tb] in
@[simp ↓] theorem pIs_n (x : PyData) (R : PyData → Prop) : pIs x .none R = R (.bool (isNone x)) := by cases x <;> rfl
omit [Tb] in
@[simp ↓] theorem pIsNot_n (x : PyData) (R : PyData → Prop) : pIsNot x .none R = R (.bool (!isNone x)) := by cases x <;> rfl
omit [Tb] in
@[simp ↓] theorem isNone_n : isNone .none = true := rfl
omit [Tb] in
@[simp ↓] theorem isNone_i (i : Int) : isNone (.int i) = false := rfl
omit [Tb] in
@[simp ↓] theorem isNone_b (i : Bool) : isNone (.bool i) = false := rfl
omit [Tb] in
@[simp ↓] theorem isNone_s (i : Str) : isNone (.str i) = false := rfl
omit [Tb] in
@[simp ↓] theorem isNone_l (i : List PyData) : isNone (.list i) = false := rfl
omit [Tb] in
@[simp ↓] theorem isNone_t (i : List PyData) : isNone (.tuple i) = false := rfl
omit [Tb] in
@[simp ↓] theorem isNone_d (i : List (PyData × PyData)) : isNone (.dict i) = false := rfl
omit [Tb] in
@[simp ↓] theorem pAddL_ll (xs ys : List PyData) (R : List PyData → Prop) : pAddL (.list xs) (.list ys) R = (xs.length + ys.length ≤ 1000000 ∧ R (xs ++ ys)) := rfl
omit [Tb] in
@[simp ↓] theorem pMulL_ll (xs : List PyData) (k : Int) (R : List PyData → Prop) : pMulL (.list xs) (.int k) R = (0 ≤ k ∧ xs.length * k.toNat ≤ 1000000 ∧ k < 1000000 ∧ R (List.replicate k.toNat xs).flatten) := rfl
omit [Tb] in
@[simp ↓] theorem pIn_l (x : PyData) (ds : List PyData) (R : PyData → Prop) : pIn x (.list ds) R = (SeqAt.shaped x = true ∧ SeqAt.shaped (.list ds) = true ∧ R (.bool (ds.any fun z => PyData.eqv z x))) := rfl
omit [Tb] in
@[simp ↓] theorem pIn_t (x : PyData) (ds : List PyData) (R : PyData → Prop) : pIn x (.tuple ds) R = (SeqAt.shaped x = true ∧ SeqAt.shaped (.tuple ds) = true ∧ R (.bool (ds.any fun z => PyData.eqv z x))) := rfl
omit [Tb] in
@[simp ↓] theorem pIn_s (x : PyData) (z : Str) (R : PyData → Prop) : pIn x (.str z) R = (∃ c : Nat, x = .str ⟨#[c]⟩ ∧ R (.bool (decide (c ∈ z.cps.toList)))) := rfl
omit [Tb] in
@[simp ↓] theorem pNotIn_l (x : PyData) (ds : List PyData) (R : PyData → Prop) : pNotIn x (.list ds) R = (SeqAt.shaped x = true ∧ SeqAt.shaped (.list ds) = true ∧ R (.bool (!ds.any fun z => PyData.eqv z x))) := rfl
omit [Tb] in
@[simp ↓] theorem pNotIn_t (x : PyData) (ds : List PyData) (R : PyData → Prop) : pNotIn x (.tuple ds) R = (SeqAt.shaped x = true ∧ SeqAt.shaped (.tuple ds) = true ∧ R (.bool (!ds.any fun z => PyData.eqv z x))) := rfl
omit [Tb] in
@[simp ↓] theorem pNotIn_s (x : PyData) (z : Str) (R : PyData → Prop) : pNotIn x (.str z) R = (∃ c : Nat, x = .str ⟨#[c]⟩ ∧ R (.bool (!decide (c ∈ z.cps.toList)))) := rfl
omit [Tb] in
@[simp ↓] theorem pSl_l (ds : List PyData) (lo hi : Option Int) (R : PyData → Prop) : pSl (.list ds) lo hi R = R (.list (cutD ds lo hi)) := rfl
omit [Tb] in
@[simp ↓] theorem pSl_t (ds : List PyData) (lo hi : Option Int) (R : PyData → Prop) : pSl (.tuple ds) lo hi R = R (.tuple (cutD ds lo hi)) := rfl
omit [Tb] in
@[simp ↓] theorem pSl_s (z : Str) (lo hi : Option Int) (R : PyData → Prop) : pSl (.str z) lo hi R = (z.length ≤ 1000000 ∧ R (.str (cutS z lo hi))) := rfl
omit [Tb] in
@[simp ↓] theorem pLen_l (ds : List PyData) (R : PyData → Prop) : pLen [.list ds] R = R (.int ds.length) := rfl
omit [Tb] in
@[simp ↓] theorem pLen_t (ds : List PyData) (R : PyData → Prop) : pLen [.tuple ds] R = R (.int ds.length) := rfl
omit [Tb] in
@[simp ↓] theorem pLen_s (z : Str) (R : PyData → Prop) : pLen [.str z] R = (z.length ≤ 1000000 ∧ R (.int z.length)) := rfl
omit [Tb] in
@[simp ↓] theorem pTupOf_l (ds : List PyData) (R : PyData → Prop) : pTupOf [.list ds] R = R (.tuple ds) := rfl
omit [Tb] in
@[simp ↓] theorem pTupOf_t (ds : List PyData) (R : PyData → Prop) : pTupOf [.tuple ds] R = R (.tuple ds) := rfl
omit [Tb] in
@[simp ↓] theorem pLstOf_l (ds : List PyData) (R : List PyData → Prop) : pLstOf [.list ds] R = R ds := rfl
omit [Tb] in
@[simp ↓] theorem pLstOf_t (ds : List PyData) (R : List PyData → Prop) : pLstOf [.tuple ds] R = R ds := rfl
omit [Tb] in
@[simp ↓] theorem pInt_i (i : Int) (R : PyData → Prop) : pInt [.int i] R = R (.int i) := rfl
omit [Tb] in
@[simp ↓] theorem pInt_b (b : Bool) (R : PyData → Prop) : pInt [.bool b] R = R (.int (if b then 1 else 0)) := rfl
omit [Tb] in
@[simp ↓] theorem pInt_s (z : Str) (R : PyData → Prop) : pInt [.str z] R = (∃ n, PySem.intText? z = some n ∧ z.length ≤ 640 ∧ R (.int n)) := rfl
omit [Tb] in
@[simp ↓] theorem pBool_i (i : Int) (R : PyData → Prop) : pBool [.int i] R = R (.bool (i != 0)) := rfl
omit [Tb] in
@[simp ↓] theorem pBool_b (b : Bool) (R : PyData → Prop) : pBool [.bool b] R = R (.bool b) := rfl
omit [Tb] in
@[simp ↓] theorem pStr_i (i : Int) (R : PyData → Prop) : pStr [.int i] R = (i.natAbs.log2 < 1920 ∧ R (.str (toString i))) := rfl
omit [Tb] in
@[simp ↓] theorem pStr_s (z : Str) (R : PyData → Prop) : pStr [.str z] R = R (.str z) := rfl
omit [Tb] in
@[simp ↓] theorem pAbs_i (i : Int) (R : PyData → Prop) : pAbs [.int i] R = R (.int (if i < 0 then -i else i)) := rfl
omit [Tb] in
@[simp ↓] theorem pMax2_i (i j : Int) (R : PyData → Prop) : pMax2 [.int i, .int j] R = R (.int (if j > i then j else i)) := rfl
omit [Tb] in
@[simp ↓] theorem pMin2_i (i j : Int) (R : PyData → Prop) : pMin2 [.int i, .int j] R = R (.int (if j < i then j else i)) := rfl
omit [Tb] in
@[simp ↓] theorem pSum_l (ds : List PyData) (R : PyData → Prop) : pSum [.list ds] R = onIs ds (fun ns => R (.int ns.sum)) .mk := rfl
omit [Tb] in
@[simp ↓] theorem pMax_l (ds : List PyData) (R : PyData → Prop) : pMax [.list ds] R = onIs ds (fun ns => 0 < ns.length ∧ ∀ m, m ∈ ns → (∀ y ∈ ns, y ≤ m) → R (.int m)) .mk := rfl
omit [Tb] in
@[simp ↓] theorem pMin_l (ds : List PyData) (R : PyData → Prop) : pMin [.list ds] R = onIs ds (fun ns => 0 < ns.length ∧ ∀ m, m ∈ ns → (∀ y ∈ ns, m ≤ y) → R (.int m)) .mk := rfl
omit [Tb] in
@[simp ↓] theorem pAll_l (ds : List PyData) (R : PyData → Prop) : pAll [.list ds] R = onBs ds (fun bs => R (.bool (allTr bs))) .mk := rfl
omit [Tb] in
@[simp ↓] theorem pAny_l (ds : List PyData) (R : PyData → Prop) : pAny [.list ds] R = onBs ds (fun bs => R (.bool (anyTr bs))) .mk := rfl
omit [Tb] in
@[simp ↓] theorem pRepr_x (x : PyData) (R : PyData → Prop) : pRepr [x] R = (x.showable = true ∧ x.hasDict = false ∧ x.depth ≤ 60 ∧ x.shown.length ≤ 16000000 ∧ R (.str x.shown)) := rfl
omit [Tb] in
@[simp ↓] theorem wIsi_ap (T : String) (w : DE) (δ : DS) (R : Opd → DS → Prop) : wIsi T w δ R = (w δ fun o δ1 => use o δ1 fun x => R (.d (.bool (isTy T x))) δ1) := rfl
omit [Tb] in
@[simp ↓] theorem wRevL_ap (w : DE) (δ : DS) (R : Opd → DS → Prop) : wRevL w δ R = (w δ fun o δ1 => use o δ1 fun x => ∃ ds, x = .list ds ∧ R (.d (.list ds.reverse)) δ1) := rfl
omit [Tb] in
@[simp] theorem tT_ap (δ : DS) (R : Bool → DS → Prop) : tT δ R = R true δ := rfl
omit [Tb] in
@[simp ↓] theorem wipeD_nil (δ : DS) : wipeD δ [] = δ := rfl
omit [Tb] in
@[simp ↓] theorem wipeD_cons (δ : DS) (v : Nat) (vs : List Nat) : wipeD δ (v :: vs) = (wipeD δ vs).set v .em := rfl
omit [Tb] in
@[simp] theorem backD_nil (δ0 δ : DS) : backD δ0 δ [] = δ := rfl
omit [Tb] in
@[simp] theorem backD_cons (δ0 δ : DS) (v : Nat) (vs : List Nat) : backD δ0 δ (v :: vs) = (backD δ0 δ vs).set v (keepC ((δ0[v]?).getD .em)) := rfl
omit [Tb] in
@[simp] theorem keepC_d (x : PyData) : keepC (.d x) = .d x := rfl
omit [Tb] in
@[simp] theorem keepC_em : keepC .em = .em := rfl
omit [Tb] in
@[simp ↓] theorem isOl_ol (a : Addr) (xs : List PyData) (δ : DS) (i : Nat) (h : δ[i]? = some (.ol a xs)) : isOl δ i = True := eq_true ⟨a, xs, h⟩
omit [Tb] in
@[simp] theorem seqOf_l (xs : List PyData) : seqOf (.list xs) = some xs := rfl
omit [Tb] in
@[simp] theorem seqOf_t (xs : List PyData) : seqOf (.tuple xs) = some xs := rfl
omit [Tb] in
@[simp] theorem endsOf_nx (cs : List Cell) (R : PyData → List Cell → Prop) (δ : DS) : (endsOf cs R).nx δ = (sameIo cs δ ∧ R .none (outC cs δ)) := rfl
omit [Tb] in
@[simp] theorem endsOf_rt (cs : List Cell) (R : PyData → List Cell → Prop) (x : PyData) (δ : DS) : (endsOf cs R).rt x δ = (sameIo cs δ ∧ R x (outC cs δ)) := rfl
omit [Tb] in
@[simp] theorem sameIo_nil (δ : DS) : sameIo [] δ = True := by unfold sameIo; rfl
omit [Tb] in
@[simp] theorem sameIo_d (x : PyData) (cs : List Cell) (e : Cell) (δ : DS) : sameIo (.d x :: cs) (e :: δ) = sameIo cs δ := rfl
omit [Tb] in
@[simp] theorem sameIo_em (cs : List Cell) (e : Cell) (δ : DS) : sameIo (.em :: cs) (e :: δ) = sameIo cs δ := rfl
omit [Tb] in
@[simp] theorem sameIo_scr (a : Addr) (ns : List Int) (cs : List Cell) (e : Cell) (δ : DS) : sameIo (.scr a ns :: cs) (e :: δ) = sameIo cs δ := rfl
omit [Tb] in
@[simp] theorem sameIo_ol (a : Addr) (xs : List PyData) (cs : List Cell) (e : Cell) (δ : DS) : sameIo (.ol a xs :: cs) (e :: δ) = ((∃ ys, e = .ol a ys) ∧ sameIo cs δ) := rfl
omit [Tb] in
@[simp] theorem sameIo_dk (a b c : Addr) (cs : List Cell) (e : Cell) (δ : DS) : sameIo (.dk a b c :: cs) (e :: δ) = (e = .dk a b c ∧ sameIo cs δ) := rfl
omit [Tb] in
@[simp] theorem outC_nil (δ : DS) : outC [] δ = [] := by unfold outC; rfl
omit [Tb] in
@[simp] theorem outC_d (x : PyData) (cs : List Cell) (e : Cell) (δ : DS) : outC (.d x :: cs) (e :: δ) = .d x :: outC cs δ := rfl
omit [Tb] in
@[simp] theorem outC_em (cs : List Cell) (e : Cell) (δ : DS) : outC (.em :: cs) (e :: δ) = .em :: outC cs δ := rfl
omit [Tb] in
@[simp] theorem outC_scr (a : Addr) (ns : List Int) (cs : List Cell) (e : Cell) (δ : DS) : outC (.scr a ns :: cs) (e :: δ) = .scr a ns :: outC cs δ := rfl
omit [Tb] in
@[simp] theorem outC_ol (a : Addr) (xs : List PyData) (cs : List Cell) (e : Cell) (δ : DS) : outC (.ol a xs :: cs) (e :: δ) = e :: outC cs δ := rfl
omit [Tb] in
@[simp] theorem outC_dk (a b c : Addr) (cs : List Cell) (e : Cell) (δ : DS) : outC (.dk a b c :: cs) (e :: δ) = e :: outC cs δ := rfl
omit [Tb] in
@[simp] theorem start0_ap (n : Nat) (cs : List Cell) : start0 n cs = cs ++ List.replicate (n - cs.length) .em := rfl
theorem for_inv {g : DTG} {b : DTS} {xs : List PyData} {δ : DS} {E : DEnds} {u : Stop E} (P : List PyData → DS → Prop) (Q : DS → Prop) (Z : PyData → DS → Prop) (h : P xs δ) (h0 : ∀ δ, P [] δ → E.nx δ) (hq : ∀ δ, Q δ → E.nx δ) (hz : ∀ x δ, Z x δ → E.rt x δ)
    (hs : ∀ x xs δ, P (x :: xs) δ → ∀ (K B : DS → Prop) (T : PyData → DS → Prop), (∀ δ', P xs δ' → K δ') → (∀ δ', Q δ' → B δ') → (∀ x δ', Z x δ' → T x δ') → g x δ fun δ1 => b { nx := K, rt := T, bk := B, ct := K } δ1) : forC g b xs δ E u := by
  show forIt g b xs E δ
  induction xs generalizing δ with
  | nil => exact h0 δ h
  | cons x xs ih => exact hs x xs δ h _ _ _ (fun δ' p => ih p) hq hz
theorem com_inv {g : DTG} {t : DT} {e : DE} {vs : List Nat} {xs acc : List PyData} {δ : DS} {R : List PyData → DS → Prop} {u : Stop R} (P : List PyData → List PyData → DS → Prop) (h : P xs acc δ) (h0 : ∀ acc δ, P [] acc δ → R acc δ)
    (hs : ∀ x xs acc δ, P (x :: xs) acc δ → ∀ K : List PyData → DS → Prop, (∀ acc' δ', P xs acc' δ' → K acc' δ') → g x δ fun δ1 => t δ1 fun b δ2 => if b = true then e δ2 fun o δ3 => lk o δ3 fun y δ4 => K (acc ++ [y]) (wipeD δ4 vs) else K acc (wipeD δ2 vs)) : comC g t e vs xs acc δ R u := by
  show compIt g t e vs xs acc δ R
  induction xs generalizing acc δ with
  | nil => exact h0 acc δ h
  | cons x xs ih => exact hs x xs acc δ h (fun acc' δ' => compIt g t e vs xs acc' δ' R) fun acc' δ' p => ih p
theorem com_any {g : DTG} {t : DT} {e : DE} {vs : List Nat} {xs : List PyData} {δ : DS} {R : List PyData → DS → Prop} {u : Stop R} (Q : PyData → Prop)
    (hs : ∀ x ∈ xs, ∀ (acc : List PyData) (K : List PyData → DS → Prop), (∀ y, Q y → K (acc ++ [y]) δ) → g x δ fun δ1 => t δ1 fun b δ2 => if b = true then e δ2 fun o δ3 => lk o δ3 fun y δ4 => K (acc ++ [y]) (wipeD δ4 vs) else K acc (wipeD δ2 vs)) (k : ∀ ys, ys.length = xs.length → (∀ y ∈ ys, Q y) → R ys δ) : comC g t e vs xs [] δ R u := by
  refine com_inv (fun ys acc δ' => δ' = δ ∧ (∀ x ∈ ys, x ∈ xs) ∧ (∀ y ∈ acc, Q y) ∧ acc.length + ys.length = xs.length) ⟨rfl, fun _ h => h, by simp, by simp⟩ ?_ ?_
  · rintro acc δ' ⟨rfl, _, h, hl⟩
    exact k acc (by simpa using hl) h
  · rintro x ys acc δ' ⟨rfl, hm, h, hl⟩ K hK
    refine hs x (hm x (List.mem_cons_self ..)) acc K fun y qy => hK _ _ ⟨rfl, fun y hy => hm y (List.mem_cons_of_mem _ hy), fun z hz => ?_, by simp at hl ⊢; omega⟩
    rcases List.mem_append.mp hz with q | q
    · exact h z q
    · rw [List.mem_singleton.mp q]; exact qy
theorem ints_of : ∀ {ys : List PyData} {P : Int → Prop}, (∀ y ∈ ys, ∃ i, y = .int i ∧ P i) → ∃ ns : List Int, ys = ns.map PyData.int ∧ ∀ i ∈ ns, P i
  | [], _, _ => ⟨[], rfl, by simp⟩
  | y :: ys, P, h => by
    obtain ⟨i, rfl, hi⟩ := h y (List.mem_cons_self ..)
    obtain ⟨ns, rfl, hn⟩ := ints_of (ys := ys) fun z hz => h z (List.mem_cons_of_mem _ hz)
    exact ⟨i :: ns, rfl, fun j hj => by
      rcases List.mem_cons.mp hj with q | q
      · rw [q]; exact hi
      · exact hn j q⟩
theorem com_ints {g : DTG} {t : DT} {e : DE} {vs : List Nat} {xs : List PyData} {δ : DS} {R : List PyData → DS → Prop} {u : Stop R} (P : Int → Prop)
    (hs : ∀ x ∈ xs, ∀ (acc : List PyData) (K : List PyData → DS → Prop), (∀ i, P i → K (acc ++ [.int i]) δ) → g x δ fun δ1 => t δ1 fun b δ2 => if b = true then e δ2 fun o δ3 => lk o δ3 fun y δ4 => K (acc ++ [y]) (wipeD δ4 vs) else K acc (wipeD δ2 vs)) (k : ∀ ns : List Int, ns.length = xs.length → (∀ i ∈ ns, P i) → R (ns.map PyData.int) δ) : comC g t e vs xs [] δ R u :=
  com_any (fun y => ∃ i, y = .int i ∧ P i) (fun x hx acc K hK => hs x hx acc K fun i hi => hK _ ⟨i, rfl, hi⟩) fun ys hl hy => by
    obtain ⟨ns, rfl, hn⟩ := ints_of hy
    exact k ns (by simpa using hl) hn
omit [Tb] in
@[simp ↓] theorem pEq_ii (i j : Int) (R : PyData → Prop) : pEq (.int i) (.int j) R = R (.bool (decide (i = j))) := by
  unfold pEq; simp [sc2, PyData.eqv]; rfl
omit [Tb] in
@[simp ↓] theorem pEq_ss (i j : Str) (R : PyData → Prop) : pEq (.str i) (.str j) R = R (.bool (decide (i = j))) := by
  unfold pEq; simp [sc2, PyData.eqv]
  have : (i == j) = decide (i = j) := by rw [Bool.eq_iff_iff]; simp
  rw [this]
omit [Tb] in
@[simp ↓] theorem pEq_bb (i j : Bool) (R : PyData → Prop) : pEq (.bool i) (.bool j) R = R (.bool (i == j)) := by
  unfold pEq; simp [sc2, PyData.eqv]
omit [Tb] in
@[simp ↓] theorem pEq_tt (xs ys : List PyData) (R : PyData → Prop) : pEq (.tuple xs) (.tuple ys) R = (SeqAt.shaped (.tuple xs) = true ∧ SeqAt.shaped (.tuple ys) = true ∧ R (.bool (PyData.eqvAll xs ys))) := by
  unfold pEq; simp [sc2, PyData.eqv, and_assoc]
omit [Tb] in
@[simp ↓] theorem pEq_ll (xs ys : List PyData) (R : PyData → Prop) : pEq (.list xs) (.list ys) R = (SeqAt.shaped (.list xs) = true ∧ SeqAt.shaped (.list ys) = true ∧ R (.bool (PyData.eqvAll xs ys))) := by
  unfold pEq; simp [sc2, PyData.eqv, and_assoc]
omit [Tb] in
@[simp ↓] theorem pNe_ii (i j : Int) (R : PyData → Prop) : pNe (.int i) (.int j) R = R (.bool (!decide (i = j))) := by
  unfold pNe; simp [sc2, PyData.eqv]; rfl
omit [Tb] in
@[simp ↓] theorem pNe_ss (i j : Str) (R : PyData → Prop) : pNe (.str i) (.str j) R = R (.bool (!decide (i = j))) := by
  unfold pNe; simp [sc2, PyData.eqv]
  have : (i == j) = decide (i = j) := by rw [Bool.eq_iff_iff]; simp
  simp only [bne, this]
omit [Tb] in
@[simp ↓] theorem pNe_bb (i j : Bool) (R : PyData → Prop) : pNe (.bool i) (.bool j) R = R (.bool (!(i == j))) := by
  unfold pNe; simp [sc2, PyData.eqv]
omit [Tb] in
@[simp ↓] theorem pNe_tt (xs ys : List PyData) (R : PyData → Prop) : pNe (.tuple xs) (.tuple ys) R = (SeqAt.shaped (.tuple xs) = true ∧ SeqAt.shaped (.tuple ys) = true ∧ R (.bool (!PyData.eqvAll xs ys))) := by
  unfold pNe; simp [sc2, PyData.eqv, and_assoc]
omit [Tb] in
@[simp ↓] theorem pNe_ll (xs ys : List PyData) (R : PyData → Prop) : pNe (.list xs) (.list ys) R = (SeqAt.shaped (.list xs) = true ∧ SeqAt.shaped (.list ys) = true ∧ R (.bool (!PyData.eqvAll xs ys))) := by
  unfold pNe; simp [sc2, PyData.eqv, and_assoc]
end DL
set_option Elab.async false
set_option linter.all false
set_option maxRecDepth 100000
set_option maxHeartbeats 4000000
namespace DL
open PySem PySem.Spec PyProof.Rows L2
variable [Tb]

section
variable {K : PySem.W.Frag} {B B0 G H : Hp} {δ : DS} {σ : L2.St}
theorem Rel.less (R : Rel K B G δ σ H) (h : ∀ a, B0 a = B a ∨ B0 a = none) : Rel K B0 G δ σ H := by
  refine ⟨R.len, R.sg, fun a o e => ?_, fun a => ?_, R.ok, R.ap, fun i c a e m => ?_, ⟨R.tt.t, R.tt.n.lessB fun a o e => by
    rcases h a with z | z
    · rw [z] at e; exact e
    · rw [z] at e; cases e⟩⟩
  · rcases h a with z | z
    · rw [z] at e; exact R.sb _ _ e
    · rw [z] at e; cases e
  · rcases h a with z | z
    · rw [z]; exact R.dj a
    · exact .inr z
  · obtain ⟨f1, f2⟩ := R.fr i c a e m
    refine ⟨f1, ?_⟩
    rcases h a with z | z
    · rw [z]; exact f2
    · exact z
theorem Rel.more {l : List Addr} (R : Rel K B G δ σ H) (hg : ∀ a ∈ l, G a = none) (hc : ∀ (i : Nat) (c : Cell) (a : Addr), δ[i]? = some c → a ∈ c.fp → a ∉ l) (hn : ∀ a ∈ l, ∀ o, H a = some o → notTE o) : Rel K (bov B H l) G δ σ H := by
  refine ⟨R.len, R.sg, fun a o e => ?_, fun a => ?_, R.ok, R.ap, fun i c a e m => ?_, ⟨R.tt.t, ⟨fun a o e => by
    unfold bov at e
    split at e
    · rename_i hm; exact hn a hm o e
    · exact R.tt.n.b a o e, R.tt.n.g⟩⟩⟩
  · unfold bov at e
    split at e
    · exact e
    · exact R.sb _ _ e
  · unfold bov
    split
    · rename_i hm; exact .inl (hg a hm)
    · exact R.dj a
  · obtain ⟨f1, f2⟩ := R.fr i c a e m
    refine ⟨f1, ?_⟩
    unfold bov
    rw [if_neg (hc i c a e m)]; exact f2
end

abbrev DSpM := List Cell → (Cell → List Cell → Prop) → Prop
def liftM (K : PySem.W.Frag) (sp : DSpM) : Sp := fun vs H Q _ => ∃ B G cs R, Rel K B G cs (vs.map some) H ∧ sp cs R ∧ ∀ v H' G' c cs', R c cs' → Same G G' → Rel K (bov B H' c.fp) G' cs' (vs.map some) H' → (∀ a ∈ c.fp, B a = none) → CellOk K G' H' c (some v) → Q v H'
def wCallM (m : List Bool) (sp : DSpM) (w : DA) : DM := fun δ R => w δ fun os δ1 => lkM m os δ1 fun os' δ2 => (slotsOf os').Nodup ∧ sp (os'.map (cellOf δ2)) fun c cs => R c (putBack os' cs δ2)
def askM (sp : DSpM) (cs : List Cell) (R : Cell → List Cell → Prop) (_u : Stop R) : Prop := sp cs R
omit [Tb] in
@[simp ↓] theorem wCallM_ap (m : List Bool) (sp : DSpM) (w : DA) (δ : DS) (R : Cell → DS → Prop) : wCallM m sp w δ R = (w δ fun os δ1 => lkM m os δ1 fun os' δ2 => (slotsOf os').Nodup ∧ askM sp (os'.map (cellOf δ2)) (fun c cs => R c (putBack os' cs δ2)) .mk) := rfl
section
variable {X : Cx} {k : Nat} {f : Addr} {fd : FuncData} {ps : List Str} {x : Str} {p pos : Pos} {e : Expr} {es : List Expr}
theorem jm_call {m : List Bool} {sp : DSpM} {w : DA} (F : FnG X.prog X.w X.K X.mg X.base CX0 k f fd ps (liftM X.K sp)) (hr : RoomG k X.A) (hg : Gl X x) (hm : X.mg x = some (.ref f)) (hk : PySem.W.keepIn X.K (.ref f) = true) (hb : Binds X.K fd ps [])
    (ha : JA X (e :: es) w) (hdb : (x == ("__debug__" : Str)) = false := by decide) (he : starEach (e :: es) X.env = (false, eval e X.env) :: starEach es X.env := by rfl) (hpl : (backTo pos (starEach es X.env)).any (·.1) = false := by rfl) : JM X (.Call (.Name x p) (e :: es) [] pos) (wCallM m sp w) :=
  pe_le (pe_callG (E := E0) F hr hg hm hk hb pass0 ha hdb he hpl) fun pins s σ H Q I ⟨B, G, δ, R, rel, hw, k⟩ => ⟨B, G, δ, _, rel, hw, fun vs H1 G1 os δ1 r1 s1 rel1 ok1 => by
    obtain ⟨G2, δ2, os', ⟨nd, q⟩, s2, rel2, ok2⟩ := lkM_ok rel1 ok1 r1
    rw [List.append_nil]
    refine ⟨_, G2, _, _, call_rel rel2 ok2 nd, q, fun v H' G' c cs r s3 rel3 hB okc => ?_⟩
    have low : Rel X.K (hold B H1 δ2 (slotsOf os')) G' cs (vs.map some) H' := rel3.less fun a => by
      unfold bov
      split
      · rename_i hm; exact .inr (hB a hm)
      · exact .inl rfl
    have rel4 := call_back rel2 ok2 nd s3 low
    have hlen : os'.length = cs.length := by rw [← opds_len ok2, ← low.len, List.length_map]
    have tr : ∀ a ∈ c.fp, ∃ o, H' a = some o := fun a m => cell_tr okc m
    have hB0 : ∀ a ∈ c.fp, B a = none := fun a m => by
      have z := hB a m
      by_cases h : ∃ i c, δ2[i]? = some c ∧ a ∈ c.fp ∧ i ∉ slotsOf os'
      · obtain ⟨i, c', h1, h2, _⟩ := h
        exact (rel2.fr i c' a h1 h2).2
      · rw [hold_out h] at z; exact z
    have hG : ∀ a ∈ c.fp, G' a = none := fun a m => by
      rcases rel3.dj a with z | z
      · exact z
      · unfold bov at z
        rw [if_pos m] at z
        obtain ⟨o, eo⟩ := tr a m
        rw [eo] at z; cases z
    refine k v H' G' c _ r (s1.trans (s2.trans s3)) (rel4.more hG (fun i c' a e m ma => ?_) fun a m => cell_te okc m) hB0 okc
    rcases putBack_at hlen nd e with ⟨h1, h2⟩ | ⟨j, h1, h2⟩
    · have z := hB a ma
      rw [hold_in ⟨i, c', h2, m, h1⟩] at z
      obtain ⟨o, eo⟩ := rel2.tr h2 m
      rw [eo] at z; cases z
    · obtain ⟨_, f2⟩ := rel3.fr j c' a h2 m
      unfold bov at f2
      rw [if_pos ma] at f2
      obtain ⟨o, eo⟩ := tr a ma
      rw [eo] at f2; cases f2⟩
end

def spDeck : DSpM := fun cs R => ∃ a ns, cs = [.scr a ns] ∧ ∀ p b c, R (.dk p b c) [.scr a ns]
def wCut (i : Nat) : DE := fun δ R => ∃ a ns, δ[i]? = some (.scr a ns) ∧ R (.d (.list ((ns.take 63).map PyData.int))) δ
omit [Tb] in
@[simp ↓] theorem wCut_ap (i : Nat) (δ : DS) (R : Opd → DS → Prop) : wCut i δ R = (∃ a ns, δ[i]? = some (.scr a ns) ∧ R (.d (.list ((ns.take 63).map PyData.int))) δ) := rfl
theorem cutV_take (xs : List V) (n : Nat) : cutV xs none (some (n : Int)) = xs.take n := by
  unfold cutV
  rw [HT.sIx_none, HT.sIx_nat]
  simp only [List.drop_zero, Nat.sub_zero]
  by_cases h : n ≤ xs.length
  · rw [Nat.min_eq_left h]
  · rw [Nat.min_eq_right (by omega), List.take_of_length_le (by omega), List.take_of_length_le (by omega)]
theorem je_cut {X : Cx} {i : Nat} {x : Str} {px p1 p2 pos : Pos} {k1} (h : PE X (.Name x px) (tVar i)) : JE X (.Subscript (.Name x px) (.Slice none (some (.Constant (.int 63) k1 p1)) none p2) pos) (wCut i) :=
  pe_le (pe_slice sl_list h po_none (po_some pe_int)) fun pins s σ H Q I ⟨B, G, δ, R, rel, ⟨a, ns, hδ, hw⟩, k⟩ => by
    obtain ⟨o, hσ, rfl, hq⟩ := rel.at hδ
    refine ⟨.ref a, hσ, 63, rfl, a, ns.map V.int, rfl, rel.sg.seq hq, fun p np => ?_⟩
    obtain ⟨rel3, s3⟩ := rel.laid (o := .lst (cutV (ns.map V.int) none (some 63))) np
    refine k _ _ _ _ _ hw s3 rel3 (Dn.lst upd_same ?_)
    rw [show (63 : Int) = ((63 : Nat) : Int) from rfl, cutV_take, ← List.map_take]
    exact DnL.ints _
def wDk1 : DTS := wSet 1 (mL (wComp (iSeq (wCut 0)) (gN 2) tT (wFn pAbs (wCons (wVar 2) wNil)) [2]))
def wDk2 : DMs := msCons (mL (wComp (iSeq (wVar 1)) (gN 2) (wB (wOp pGe (wVar 2) (wOp pPow (wC (.int 10)) (wC (.int 18))))) (wVar 2) [2]))
  (msCons (mL (wOpL pAddL (wVar 1) (wOfL (wLst (wCons (wOp pAdd (wC (.int 11228)) (wFn pLen (wCons (wVar 1) wNil))) wNil))))) (msCons (mE (wC (.int 0))) msNil))
theorem comp_abs {δ : DS} {R : List PyData → DS → Prop} {d0 d1 : Cell} (hd : δ = [d0, d1, .em]) (k : ∀ ms : List Int, ms.length ≤ 63 → R (ms.map PyData.int) δ) (ns : List Int) (hn : ns.length ≤ 63) :
    compIt (gN 2) tT (wFn pAbs (wCons (wVar 2) wNil)) [2] (ns.map PyData.int) [] δ R := by
  refine com_inv (u := .mk) (fun xs acc δ' => δ' = δ ∧ ∃ ns ms : List Int, xs = ns.map PyData.int ∧ acc = ms.map PyData.int ∧ ms.length + ns.length ≤ 63) ⟨rfl, ns, [], rfl, rfl, by simpa using hn⟩ ?_ ?_
  · rintro acc δ' ⟨rfl, ns, ms, h1, rfl, h3⟩
    exact k ms (by omega)
  · rintro x xs acc δ' ⟨rfl, ns, ms, h1, rfl, h3⟩ K ih
    cases ns with
    | nil => cases h1
    | cons n ns =>
      simp only [List.map_cons, List.cons.injEq] at h1
      obtain ⟨rfl, rfl⟩ := h1
      subst hd
      simp
      exact ih _ _ ⟨rfl, ns, ms ++ [if n < 0 then -n else n], rfl, by simp, by simp at h3 ⊢; omega⟩
theorem comp_ge {δ : DS} {R : List PyData → DS → Prop} {d0 d1 : Cell} (hd : δ = [d0, d1, .em]) (k : ∀ ms : List Int, (∀ x ∈ ms, 0 ≤ x) → R (ms.map PyData.int) δ) (ns : List Int) :
    compIt (gN 2) (wB (wOp pGe (wVar 2) (wOp pPow (wC (.int 10)) (wC (.int 18))))) (wVar 2) [2] (ns.map PyData.int) [] δ R := by
  refine com_inv (u := .mk) (fun xs acc δ' => δ' = δ ∧ ∃ ns ms : List Int, xs = ns.map PyData.int ∧ acc = ms.map PyData.int ∧ ∀ x ∈ ms, 0 ≤ x) ⟨rfl, ns, [], rfl, rfl, by simp⟩ ?_ ?_
  · rintro acc δ' ⟨rfl, ns, ms, h1, rfl, h3⟩
    exact k ms h3
  · rintro x xs acc δ' ⟨rfl, ns, ms, h1, rfl, h3⟩ K ih
    cases ns with
    | nil => cases h1
    | cons n ns =>
      simp only [List.map_cons, List.cons.injEq] at h1
      obtain ⟨rfl, rfl⟩ := h1
      subst hd
      simp [CPow]
      split
      · exact ih _ _ ⟨rfl, ns, ms ++ [n], rfl, by simp, fun x hx => by
          rcases List.mem_append.mp hx with q | q
          · exact h3 x q
          · rw [List.mem_singleton.mp q]; omega⟩
      · exact ih _ _ ⟨rfl, ns, ms, rfl, rfl, h3⟩
theorem ok_deck {P : Program} {w : World} {K : PySem.W.Frag} {mg : Str → Option Value} {base : Heap} {x qual : Str} {st : Stmt} {f : Addr} {fd : FuncData} {N ps : List Str} {k : Nat} {st1 : Stmt} {es : List Expr} {p1 p2 : Pos} (F : Fun K x qual st f fd) (S : FnScope N ps (defScope st)) (hN : N.length = 3) (hp : ps.length = 1)
    (hb : defBody st = [st1, .Return (some (.List es p1)) p2])
    (h1 : ∀ (cdv : Value) (A : Around) (outer : List Env) (s : Shared) (H : Hp) (E : XK), RoomG k (A.deeper (envOfC qual (defScope st) s.heap.objs.size f cdv)) → JS (cxOf CX0 P w K mg base N qual (defScope st) f cdv A outer s H E).nox st1 wDk1)
    (h2 : ∀ (cdv : Value) (A : Around) (outer : List Env) (s : Shared) (H : Hp) (E : XK), RoomG k (A.deeper (envOfC qual (defScope st) s.heap.objs.size f cdv)) → JMs (cxOf CX0 P w K mg base N qual (defScope st) f cdv A outer s H E).nox es wDk2) : FnG P w K mg base CX0 (k + 1) f fd ps (liftM K spDeck) := by
  obtain ⟨oc, od, kV, doc, pm, an, cdv, ct, osl, rfl, lk', hcd⟩ := F.ex
  refine fnG_of lk' hcd S (fun vs H Q E ⟨B, G, cs, R, rel, ⟨a, ns, e, _⟩, _⟩ => by have := rel.len; subst e; simp at this; omega) fun A outer s H vs Q E hr ⟨B, G, cs, R, rel, ⟨a, ns, e, hR⟩, kk⟩ => ?_
  subst e
  rw [hb]
  refine ⟨_, (pss_cons (h1 cdv A outer s H E hr) (pss_one (ps_ret (pe_lst (h2 cdv A outer s H E hr))))).nox, ?_⟩
  have e0 : start0 N.length [Cell.scr a ns] = [.scr a ns, .em, .em] := by rw [hN]; rfl
  refine ⟨B, G, [.scr a ns, .em, .em], { nx := fun δ => ∃ q xs, δ = [.scr a ns, .ol q (xs.map PyData.int), .em] ∧ (xs : List Int).length ≤ 63, rt := fun _ _ => False }, e0 ▸ rel_start rel, ?_, ?_⟩
  · unfold wDk1
    simp
    refine ⟨a, ns, ⟨rfl, rfl⟩, ?_⟩
    rw [← List.map_take]
    exact comp_abs rfl (fun ms hm q => ⟨q, ms, by simp [hm]⟩) _ (by rw [List.length_take]; omega)
  · refine ⟨?_, fun _ _ _ _ _ _ h => h.elim, fun _ _ _ _ h => h.elim, fun _ _ _ _ h => h.elim⟩
    rintro σ1 H1 G1 δ1 ⟨q, xs, rfl, hx⟩ s1 rel1
    refine ⟨B, G1, _, fun cs δ => ∃ (q1 q2 : Addr) (ms ys : List Int) (d1 : Cell), cs = [.ol q1 (ms.map PyData.int), .ol q2 (ys.map PyData.int), .d (.int 0)] ∧ δ = [.scr a ns, d1, .em] ∧ (∀ x ∈ ms, (0 : Int) ≤ x) ∧ ys ≠ [], rel1, ?_, ?_⟩
    · unfold wDk2
      simp
      refine comp_ge rfl (fun ms hm q1 => ?_) _
      simp
      refine ⟨by omega, fun q2 => ⟨q1, q2, ms, xs ++ [11228 + (xs.length : Int)], ⟨⟨rfl, rfl⟩, rfl, by simp⟩, hm, by simp⟩⟩
    · rintro vs2 H2 G2 cs δ2 ⟨b, c, ms, ys, d1, rfl, rfl, hm, hy⟩ s2 rel2 hB2 ok2
      cases ok2 with
      | cons o1 n1 t1 =>
        cases t1 with
        | cons o2 n2 t2 =>
          cases t2 with
          | cons o3 n3 t3 =>
            cases t3
            obtain ⟨e1, w1, hb, t1⟩ := o1
            obtain ⟨e2, w2, hc, t2⟩ := o2
            obtain ⟨v3, e3, t3⟩ := o3
            cases e1
            cases e2
            cases e3
            obtain rfl := t1.toInts
            obtain rfl := t2.toInts
            obtain rfl := dn_int t3
            refine ⟨by show 3 ≤ sizeLine; rw [sizeLine_eq]; omega, fun p np => ?_⟩
            have bc : b ≠ c := fun e => n1 b (by simp [Cell.fp]) (by simp [fps, Cell.fp, e])
            have pb : p ≠ b := fun e => by rw [e, hb] at np; cases np
            have pc : p ≠ c := fun e => by rw [e, hc] at np; cases np
            have rel3 := rel_end rel (rel2.growB (o := .lst [.ref b, .ref c, .int 0]) np |>.less (B0 := B) fun a => ?_) (s1.trans s2) (show sameIo [Cell.scr a ns] _ from trivial)
            · have eb : (fps [Cell.ol b (ms.map PyData.int), Cell.ol c (ys.map PyData.int), Cell.d (.int 0)]) = [b, c] := rfl
              rw [eb] at rel2 hB2
              have hB : ∀ a ∈ [p, b, c], B a = none := fun a m => by
                rcases List.mem_cons.mp m with e | m
                · rw [e]
                  have z := rel2.freeB np
                  unfold bov at z
                  rw [if_neg (by simp [pb, pc])] at z; exact z
                · exact hB2 a m
              refine kk _ _ G2 (.dk p b c) _ (hR p b c) (s1.trans s2) (rel3.more (fun a m => ?_) ?_ fun a m => cell_te (K := K) (G := G2) (c := .dk p b c) (o := some (.ref p)) ⟨rfl, pb, pc, bc, 0, ms, ys, upd_same, by rw [upd_ne pb.symm]; exact hb, by rw [upd_ne pc.symm]; exact hc, hy, hm⟩ m) hB ⟨rfl, pb, pc, bc, 0, ms, ys, upd_same, by rw [upd_ne pb.symm]; exact hb, by rw [upd_ne pc.symm]; exact hc, hy, hm⟩
              · rcases List.mem_cons.mp m with e | m
                · rw [e]; exact rel2.freeG np
                · rcases rel2.dj a with z | z
                  · exact z
                  · unfold bov at z
                    rw [if_pos m] at z
                    have m' : a = b ∨ a = c := by simpa using m
                    rcases m' with rfl | rfl
                    · rw [hb] at z; cases z
                    · rw [hc] at z; cases z
              · intro i c' a' e m
                have : c' = .scr a ns := by
                  cases i with
                  | zero => simp [outC] at e; exact e.symm
                  | succ i => simp [outC] at e
                rw [this] at m; cases m
            · by_cases h : a = p
              · refine .inr ?_
                rw [h]
                have z := rel2.freeB np
                unfold bov at z
                split at z
                · rename_i hm2
                  rw [z] at np
                  have : H2 p = none := z
                  rcases (show p = b ∨ p = c by simpa [fps, Cell.fp] using hm2) with e | e
                  · exact absurd e pb
                  · exact absurd e pc
                · exact z
              · rw [upd_ne h]
                unfold bov
                split
                · rename_i hm2
                  exact .inr (hB2 a hm2)
                · exact .inl rfl
end DL
set_option Elab.async false
set_option linter.all false
set_option maxRecDepth 100000
set_option maxHeartbeats 4000000
namespace DL
open PySem PySem.Spec PyProof.Rows L2
variable [Tb]

section
variable {K : PySem.W.Frag} {B G H : Hp} {δ : DS} {σ : L2.St}
theorem Rel.put {i : Nat} {c c' : Cell} {p : Addr} {o : HO} {ov : Option V} (R : Rel K B G δ σ H) (h : δ[i]? = some c) (hσ : σ[i]? = some ov) (hp : p ∈ c.fp) (hf : c'.fp = c.fp) (ok : CellOk K G (upd H p o) c' ov) : Rel K B G (δ.set i c') σ (upd H p o) := by
  obtain ⟨ga, ba⟩ := R.fr i _ p h hp
  have hi : i < δ.length := (List.getElem?_eq_some_iff.mp h).1
  have get : ∀ {j : Nat} {x : Cell}, (δ.set i c')[j]? = some x → (j = i ∧ x = c') ∨ (j ≠ i ∧ δ[j]? = some x) := fun {j x} e => by
    by_cases hj : j = i
    · subst hj
      rw [List.getElem?_set_self hi] at e; cases e; exact .inl ⟨rfl, rfl⟩
    · rw [List.getElem?_set_ne (Ne.symm hj)] at e; exact .inr ⟨hj, e⟩
  refine ⟨by simp [R.len], fun b x q => ?_, fun b x q => ?_, R.dj, fun j x w e1 e2 => ?_, fun j k x y z e1 e2 m1 m2 => ?_, fun j x z e1 m => ?_, ⟨tabs_upd R.tt.t (cell_te (R.ok i c _ h hσ) hp), R.tt.n⟩⟩
  · rw [upd_ne (fun z => by rw [z, ga] at q; cases q)]; exact R.sg _ _ q
  · rw [upd_ne (fun z => by rw [z, ba] at q; cases q)]; exact R.sb _ _ q
  · rcases get e1 with ⟨rfl, rfl⟩ | ⟨hj, e1⟩
    · rw [hσ] at e2; cases e2; exact ok
    · refine (R.ok j x w e1 e2).stay (Same.refl _) fun b hb => upd_ne fun q => ?_
      rw [q] at hb
      exact hj (R.ap j i x _ p e1 h hb hp)
  · rcases get e1 with h1 | h1
    · obtain ⟨h1, e1'⟩ := h1
      rw [e1'] at m1
      rcases get e2 with ⟨h2, e3⟩ | ⟨h2, e3⟩
      · rw [h1, h2]
      · exact h1.trans (R.ap i k _ y z h e3 (by rw [← hf]; exact m1) m2)
    · rcases get e2 with ⟨h2, e3⟩ | ⟨h2, e3⟩
      · rw [e3] at m2
        exact (R.ap j i x _ z h1.2 h m1 (by rw [← hf]; exact m2)).trans h2.symm
      · exact R.ap j k x y z h1.2 e3 m1 m2
  · rcases get e1 with ⟨_, rfl⟩ | ⟨hj, e1⟩
    · exact R.fr i _ z h (by rw [← hf]; exact m)
    · exact R.fr j x z e1 m
theorem Rel.swap {i : Nat} {c c' : Cell} {ov : Option V} (R : Rel K B G δ σ H) (h : δ[i]? = some c) (hσ : σ[i]? = some ov) (hf : c'.fp = c.fp) (ok : CellOk K G H c' ov) : Rel K B G (δ.set i c') σ H :=
  R.recell hσ ok fun a m => ⟨R.fr i c a h (by rw [← hf]; exact m), fun j x hj e m2 => hj (R.ap j i x c a e h m2 (by rw [← hf]; exact m))⟩
end

def wK2 (i : Nat) : DE := fun δ R => ∃ a b c xs n ys, δ[i]? = some (.dx a b c xs n ys) ∧ R (.d (.int n)) δ
def wK00 (i : Nat) : DE := fun δ R => ∃ a b c xs n ys x, δ[i]? = some (.dx a b c xs n ys) ∧ xs.head? = some x ∧ R (.d (.int x)) δ
def wKne (i : Nat) : DT := fun δ R => ∃ a b c xs n ys, δ[i]? = some (.dx a b c xs n ys) ∧ R (!xs.isEmpty) δ
def wK1 (i : Nat) (w : DE) : DE := fun δ R => ∃ a b c xs n ys, δ[i]? = some (.dx a b c xs n ys) ∧ w δ fun o δ1 => use o δ1 fun d => ∃ j z, d = .int j ∧ δ1[i]? = some (.dx a b c xs n ys) ∧ atI ys j = some z ∧ R (.d (.int z)) δ1
def wKlen (i : Nat) : DE := fun δ R => ∃ a b c xs n ys, δ[i]? = some (.dx a b c xs n ys) ∧ R (.d (.int (ys.length : Nat))) δ
def wPut00 (i : Nat) (w : DE) : DTS := fun E δ => w δ fun o δ1 => use o δ1 fun d => ∃ v a b c x xs n ys, d = .int v ∧ δ1[i]? = some (.dx a b c (x :: xs) n ys) ∧ E.nx (δ1.set i (.dx a b c (v :: xs) n ys))
def wPop0 (i : Nat) : DTS := fun E δ => ∃ a b c x xs n ys, δ[i]? = some (.dx a b c (x :: xs) n ys) ∧ E.nx (δ.set i (.dx a b c xs n ys))
def wPut2 (i : Nat) (w : DE) : DTS := fun E δ => w δ fun o δ1 => use o δ1 fun d => ∃ v a b c xs n ys, d = .int v ∧ δ1[i]? = some (.dx a b c xs n ys) ∧ E.nx (δ1.set i (.dx a b c xs v ys))
def asX (c : Option Cell) (k : Addr → Addr → Addr → List Int → Int → List Int → Prop) : Prop := match c with
  | some (.dx a b c xs n ys) => k a b c xs n ys
  | _ => False
omit [Tb] in
@[simp ↓] theorem asX_x (a b c : Addr) (xs : List Int) (n : Int) (ys : List Int) (k : Addr → Addr → Addr → List Int → Int → List Int → Prop) : asX (some (.dx a b c xs n ys)) k = k a b c xs n ys := rfl
theorem ex_x (c : Option Cell) (k : Addr → Addr → Addr → List Int → Int → List Int → Prop) : (∃ p q r xs n ys, c = some (.dx p q r xs n ys) ∧ k p q r xs n ys) = asX c k := by
  cases c with
  | none => simp [asX]
  | some c =>
    cases c with
    | dx p q r xs n ys =>
      refine propext ⟨fun ⟨_, _, _, _, _, _, e, h⟩ => ?_, fun h => ⟨_, _, _, _, _, _, rfl, h⟩⟩
      cases e; exact h
    | _ => simp [asX]
def head1 (xs : List Int) (k : Int → List Int → Prop) : Prop := match xs with
  | x :: r => k x r
  | [] => False
omit [Tb] in
@[simp] theorem head1_c (x : Int) (xs : List Int) (k : Int → List Int → Prop) : head1 (x :: xs) k = k x xs := rfl
omit [Tb] in
@[simp ↓] theorem wK2_ap (i : Nat) (δ : DS) (R : Opd → DS → Prop) : wK2 i δ R = asX δ[i]? fun a b c xs n ys => R (.d (.int n)) δ := by
  rw [← ex_x]; rfl
omit [Tb] in
@[simp ↓] theorem wK00_ap (i : Nat) (δ : DS) (R : Opd → DS → Prop) : wK00 i δ R = asX δ[i]? fun a b c xs n ys => head1 xs fun x _ => R (.d (.int x)) δ := by
  rw [← ex_x]
  refine propext ⟨fun ⟨a, b, c, xs, n, ys, x, h, h2, q⟩ => ⟨a, b, c, xs, n, ys, h, ?_⟩, fun ⟨a, b, c, xs, n, ys, h, q⟩ => ?_⟩
  · cases xs with
    | nil => cases h2
    | cons y r => cases h2; exact q
  · cases xs with
    | nil => exact q.elim
    | cons y r => exact ⟨a, b, c, _, n, ys, y, h, rfl, q⟩
omit [Tb] in
@[simp ↓] theorem wKne_ap (i : Nat) (δ : DS) (R : Bool → DS → Prop) : wKne i δ R = asX δ[i]? fun a b c xs n ys => R (!xs.isEmpty) δ := by
  rw [← ex_x]; rfl
omit [Tb] in
@[simp ↓] theorem wK1_ap (i : Nat) (w : DE) (δ : DS) (R : Opd → DS → Prop) : wK1 i w δ R = asX δ[i]? fun a b c xs n ys => w δ fun o δ1 => use o δ1 fun d => asI d (fun j => δ1[i]? = some (.dx a b c xs n ys) ∧ onS (atI ys j) (fun z => R (.d (.int z)) δ1) .mk) .mk := by
  rw [← ex_x]; simp only [← ex_int, ← ex_some, ← exists_and_left]; rfl
omit [Tb] in
@[simp ↓] theorem wKlen_ap (i : Nat) (δ : DS) (R : Opd → DS → Prop) : wKlen i δ R = asX δ[i]? fun a b c xs n ys => R (.d (.int (ys.length : Nat))) δ := by
  rw [← ex_x]; rfl
omit [Tb] in
@[simp ↓] theorem wPut00_ap (i : Nat) (w : DE) (E : DEnds) (δ : DS) : wPut00 i w E δ = (w δ fun o δ1 => use o δ1 fun d => asI d (fun v => asX δ1[i]? fun a b c xs n ys => head1 xs fun _ r => E.nx (δ1.set i (.dx a b c (v :: r) n ys))) .mk) := by
  unfold wPut00
  simp only [← ex_x, ← ex_int]
  congr 1; funext o δ1; congr 1; funext d
  refine propext ⟨fun ⟨v, a, b, c, x, xs, n, ys, h0, h, q⟩ => ⟨v, h0, a, b, c, _, n, ys, h, q⟩, fun ⟨v, h0, a, b, c, xs, n, ys, h, q⟩ => ?_⟩
  cases xs with
  | nil => exact q.elim
  | cons y r => exact ⟨v, a, b, c, y, r, n, ys, h0, h, q⟩
omit [Tb] in
@[simp ↓] theorem wPop0_ap (i : Nat) (E : DEnds) (δ : DS) : wPop0 i E δ = asX δ[i]? fun a b c xs n ys => head1 xs fun _ r => E.nx (δ.set i (.dx a b c r n ys)) := by
  rw [← ex_x]
  refine propext ⟨fun ⟨a, b, c, x, xs, n, ys, h, q⟩ => ⟨a, b, c, _, n, ys, h, q⟩, fun ⟨a, b, c, xs, n, ys, h, q⟩ => ?_⟩
  cases xs with
  | nil => exact q.elim
  | cons y r => exact ⟨a, b, c, y, r, n, ys, h, q⟩
omit [Tb] in
@[simp ↓] theorem wPut2_ap (i : Nat) (w : DE) (E : DEnds) (δ : DS) : wPut2 i w E δ = (w δ fun o δ1 => use o δ1 fun d => asI d (fun v => asX δ1[i]? fun a b c xs n ys => E.nx (δ1.set i (.dx a b c xs v ys))) .mk) := by
  unfold wPut2
  simp only [← ex_x, ← ex_int]
  congr 1; funext o δ1; congr 1; funext d
  exact propext ⟨fun ⟨v, a, b, c, xs, n, ys, h0, h, q⟩ => ⟨v, h0, a, b, c, xs, n, ys, h, q⟩, fun ⟨v, h0, a, b, c, xs, n, ys, h, q⟩ => ⟨v, a, b, c, xs, n, ys, h0, h, q⟩⟩
section
variable {X : Cx} {i : Nat} {x : Str} {px pos p1 p2 p3 p4 p5 : Pos} {k1 k2 : Nat}
theorem atI_map {α β : Type} (f : α → β) (xs : List α) (j : Int) : atI (xs.map f) j = (atI xs j).map f := by
  unfold atI
  rw [List.length_map]
  cases ixN xs.length j with
  | none => rfl
  | some k => simp
theorem je_k2 (h : PE X (.Name x px) (tVar i)) : JE X (.Subscript (.Name x px) (.Constant (.int 2) k1 p1) pos) (wK2 i) :=
  pe_le (pe_ix ix_list h pe_int (fun _ _ => rfl)) fun pins s σ H Q I ⟨B, G, δ, R, rel, ⟨a, b, c, xs, n, ys, hδ, hw⟩, k⟩ => by
    obtain ⟨o, hσ, rfl, h1, h2, h3, e1, e2, e3⟩ := rel.at hδ
    exact ⟨.ref a, hσ, a, _, 2, .int n, rfl, rfl, SqL.of e1, rfl, k _ H G _ δ hw (Same.refl _) rel (Dn.int _)⟩
theorem je_k00 (h : PE X (.Name x px) (tVar i)) : JE X (.Subscript (.Subscript (.Name x px) (.Constant (.int 0) k1 p1) p2) (.Constant (.int 0) k2 p3) pos) (wK00 i) :=
  pe_le (pe_ix ix_list (pe_ix ix_list h pe_int (fun _ _ => rfl)) pe_int (fun _ _ => rfl)) fun pins s σ H Q I ⟨B, G, δ, R, rel, ⟨a, b, c, xs, n, ys, x, hδ, hx, hw⟩, k⟩ => by
    obtain ⟨o, hσ, rfl, h1, h2, h3, e1, e2, e3⟩ := rel.at hδ
    cases xs with
    | nil => cases hx
    | cons y xs =>
      cases hx
      exact ⟨.ref a, hσ, a, _, 0, .ref b, rfl, rfl, SqL.of e1, rfl, b, _, 0, .int x, rfl, rfl, SqL.of e2, by simp [atI, ixN], k _ H G _ δ hw (Same.refl _) rel (Dn.int _)⟩
theorem je_k1 {e : Expr} {w : DE} (h : PE X (.Name x px) (tVar i)) (he : JE X e w) (hs : PlainIx e) : JE X (.Subscript (.Subscript (.Name x px) (.Constant (.int 1) k1 p1) p2) e pos) (wK1 i w) :=
  pe_le (pe_ix ix_list (pe_ix ix_list h pe_int (fun _ _ => rfl)) he hs) fun pins s σ H Q I ⟨B, G, δ, R, rel, ⟨a, b, c, xs, n, ys, hδ, hw⟩, k⟩ => by
    obtain ⟨o, hσ, rfl, h1, h2, h3, e1, e2, e3⟩ := rel.at hδ
    refine ⟨.ref a, hσ, a, _, 1, .ref c, rfl, rfl, SqL.of e1, rfl, B, G, δ, _, rel, hw, fun v H1 G1 o δ1 r1 s1 rel1 ok1 => ?_⟩
    obtain ⟨d, ⟨j, z, rfl, hδ1, hz, q⟩, bd⟩ := use_ok rel1 ok1 r1
    obtain ⟨o', hσ', e', h1', h2', h3', e1', e2', e3'⟩ := rel1.at hδ1
    exact ⟨c, _, j, .int z, rfl, bor_int bd, SqL.of e3', by rw [atI_map, hz]; rfl, k _ H1 G1 _ δ1 q s1 rel1 (Dn.int _)⟩
theorem je_klen {xl : Str} {pl : Pos} (hg : Gl X xl) (hm : X.mg xl = none) (hv : bootBuiltins xl = some (.builtin "len")) (h : PE X (.Name x px) (tVar i)) (hn : xl ≠ "__name__" := by decide) (hdb : (xl == ("__debug__" : Str)) = false := by decide)
    (he : starEach [.Subscript (.Name x px) (.Constant (.int 1) k1 p1) p2] X.env = (false, eval (.Subscript (.Name x px) (.Constant (.int 1) k1 p1) p2) X.env) :: starEach [] X.env := by rfl) :
    JE X (.Call (.Name xl pl) [.Subscript (.Name x px) (.Constant (.int 1) k1 p1) p2] [] pos) (wKlen i) :=
  pe_le (pe_callB call_len hg hm hv (pa_cons (pe_ix ix_list h pe_int (fun _ _ => rfl)) pa_nil he) hn hdb he rfl) fun pins s σ H Q I ⟨B, G, δ, R, rel, ⟨a, b, c, xs, n, ys, hδ, hw⟩, k⟩ => by
    obtain ⟨o, hσ, rfl, h1, h2, h3, e1, e2, e3⟩ := rel.at hδ
    exact ⟨.ref a, hσ, a, _, 1, .ref c, rfl, rfl, SqL.of e1, rfl, _, _, rfl, .inl ⟨_, SqL.of e3, by simp⟩, k _ H G _ δ hw (Same.refl _) rel (Dn.int _)⟩
theorem dp_ints {K : PySem.W.Frag} {H : Hp} {a : Addr} {xs : List Int} (h : H a = some (.lst (xs.map V.int))) : Dp K H (.ref a) (.list (xs.map PyData.int)) :=
  .lst (SqL.of h) (by
    induction xs with
    | nil => exact .nil
    | cons x xs ih => exact .cons (.int _) (by
        clear h
        clear ih
        induction xs with
        | nil => exact .nil
        | cons x xs ih => exact .cons (.int _) ih))
theorem canLay_ints : ∀ xs : List Int, PyData.canLayAll0 (xs.map PyData.int) = true
  | [] => by simp [PyData.canLayAll0]
  | x :: xs => by simp [PyData.canLayAll0, PyData.canLay0, canLay_ints xs]
theorem depth_ints : ∀ xs : List Int, PyData.depthAll (xs.map PyData.int) = 0
  | [] => by simp [PyData.depthAll]
  | x :: xs => by simp [PyData.depthAll, PyData.depth, depth_ints xs]
theorem shaped_ints (xs : List Int) : SeqAt.shaped (.list (xs.map PyData.int)) = true := by
  simp [SeqAt.shaped, PyData.canLay0, PyData.depth, canLay_ints, depth_ints]
theorem eqv_nil (xs : List Int) : PyData.eqv (.list (xs.map PyData.int)) (.list []) = xs.isEmpty := by
  cases xs <;> simp [PyData.eqv, PyData.eqvAll]
theorem jt_kne (hu : X.A.units + 64 < cLine) (h : PE X (.Name x px) (tVar i)) (hm : behindInMarks .NotEq (.List [] p3) = false := by rfl) : JT X (.Compare (.Subscript (.Name x px) (.Constant (.int 0) k1 p1) p2) [.NotEq] [.List [] p3] pos) (wKne i) :=
  pt_le (pt_cmpR (op_neD hu) (pe_ix ix_list h pe_int (fun _ _ => rfl)) (pe_lst pa_nil) hm) fun pins s σ H Q I ⟨B, G, δ, R, rel, ⟨a, b, c, xs, n, ys, hδ, hw⟩, k⟩ => by
    obtain ⟨o, hσ, rfl, h1, h2, h3, e1, e2, e3⟩ := rel.at hδ
    refine ⟨.ref a, hσ, a, _, 0, .ref b, rfl, rfl, SqL.of e1, rfl, Nat.zero_le _, fun p np => ?_⟩
    have hb : (upd H p (.lst [])) b = some (.lst (xs.map V.int)) := by rw [upd_ne (ne_of_none e2 np)]; exact e2
    refine ⟨_, .list [], dp_ints hb, .lst (SqL.of upd_same) .nil, shaped_ints xs, by decide, _, rfl, ?_⟩
    rw [eqv_nil]
    exact k _ _ G δ hw (Same.refl _) (rel.grow np)
theorem js_put00 {e : Expr} {w : DE} {pt : Pos} (h : PE X (.Name x px) (tVar i)) (he : JE X e w) (hs : swapsWithSole [.Subscript (.Subscript (.Name x px) (.Constant (.int 0) k1 p1) p2) (.Constant (.int 0) k2 p3) pt] e pos.line X.env = pure false := by rfl) (hw : swappedStores [.Subscript (.Subscript (.Name x px) (.Constant (.int 0) k1 p1) p2) (.Constant (.int 0) k2 p3) pt] e X.env = pure none := by rfl) :
    JS X (.Assign [.Subscript (.Subscript (.Name x px) (.Constant (.int 0) k1 p1) p2) (.Constant (.int 0) k2 p3) pt] e pos) (wPut00 i w) :=
  ps_le (ps_asg he (pg_sub (pe_ix ix_list h pe_int (fun _ _ => rfl)) pe_int set_list) hs hw) fun pins s σ H D I ⟨B, G, δ, E, rel, hw, k⟩ => ⟨B, G, δ, _, rel, hw, fun v H1 G1 o δ1 r1 s1 rel1 ok1 => by
    obtain ⟨d, ⟨j, a, b, c, x, xs, n, ys, rfl, hδ1, q⟩, bd⟩ := use_ok rel1 ok1 r1
    obtain ⟨o', hσ, rfl, h1, h2, h3, e1, e2, e3⟩ := rel1.at hδ1
    obtain rfl := bor_int bd
    refine ⟨.ref a, hσ, a, _, 0, .ref b, rfl, rfl, SqL.of e1, rfl, b, _, 0, 0, rfl, rfl, e2, by simp [ixN], ?_⟩
    exact k.nx _ _ G1 _ q s1 (rel1.put hδ1 hσ (by simp [Cell.fp]) rfl ⟨rfl, h1, h2, h3, by rw [upd_ne h1]; exact e1, by rw [upd_same]; rfl, by rw [upd_ne h3.symm]; exact e3⟩)⟩
theorem js_put2 {e : Expr} {w : DE} {pt : Pos} (h : PE X (.Name x px) (tVar i)) (he : JE X e w) (hs : swapsWithSole [.Subscript (.Name x px) (.Constant (.int 2) k1 p1) pt] e pos.line X.env = pure false := by rfl) (hw : swappedStores [.Subscript (.Name x px) (.Constant (.int 2) k1 p1) pt] e X.env = pure none := by rfl) :
    JS X (.Assign [.Subscript (.Name x px) (.Constant (.int 2) k1 p1) pt] e pos) (wPut2 i w) :=
  ps_le (ps_asg he (pg_sub h pe_int set_list) hs hw) fun pins s σ H D I ⟨B, G, δ, E, rel, hw, k⟩ => ⟨B, G, δ, _, rel, hw, fun v H1 G1 o δ1 r1 s1 rel1 ok1 => by
    obtain ⟨d, ⟨j, a, b, c, xs, n, ys, rfl, hδ1, q⟩, bd⟩ := use_ok rel1 ok1 r1
    obtain ⟨o', hσ, rfl, h1, h2, h3, e1, e2, e3⟩ := rel1.at hδ1
    obtain rfl := bor_int bd
    refine ⟨.ref a, hσ, a, _, 2, 2, rfl, rfl, e1, by simp [ixN], ?_⟩
    exact k.nx _ _ G1 _ q s1 (rel1.put hδ1 hσ (by simp [Cell.fp]) rfl ⟨rfl, h1, h2, h3, by rw [upd_same]; rfl, by rw [upd_ne h1.symm]; exact e2, by rw [upd_ne h2.symm]; exact e3⟩)⟩
theorem js_pop0 {apos cpos : Pos} (h : PE X (.Name x px) (tVar i)) (hs : swapsWith (.Call (.Attribute (.Subscript (.Name x px) (.Constant (.int 0) k1 p1) p2) "pop" apos) [.Constant (.int 0) k2 p3] [] cpos) none pos.line X.env = pure false := by rfl)
    (hb : PE X (.Call (.Attribute (.Subscript (.Name x px) (.Constant (.int 0) k1 p1) p2) "pop" apos) [.Constant (.int 0) k2 p3] [] cpos) (tBM X.K "list" rPopAt (tOp (rIxL X.K) (tVar i) (tC (.int 0))) (tCons (tC (.int 0)) tNil))) :
    JS X (.Expr (.Call (.Attribute (.Subscript (.Name x px) (.Constant (.int 0) k1 p1) p2) "pop" apos) [.Constant (.int 0) k2 p3] [] cpos) pos) (wPop0 i) :=
  ps_le (ps_expr hb hs) fun pins s σ H D I ⟨B, G, δ, E, rel, ⟨a, b, c, x, xs, n, ys, hδ, hw⟩, k⟩ => by
    obtain ⟨o', hσ, rfl, h1, h2, h3, e1, e2, e3⟩ := rel.at hδ
    refine ⟨.ref a, hσ, a, _, 0, .ref b, rfl, rfl, SqL.of e1, rfl, .inl ⟨rfl, _, SqL.of e2⟩, b, _, 0, 0, .int x, rfl, rfl, e2, by decide, by decide, by simp [seqIndex?], rfl, ?_⟩
    exact k.nx _ _ G _ hw (Same.refl _) (rel.put hδ hσ (by simp [Cell.fp]) rfl ⟨rfl, h1, h2, h3, by rw [upd_ne h1]; exact e1, by rw [upd_same]; rfl, by rw [upd_ne h3.symm]; exact e3⟩)
end
end DL
set_option Elab.async false
set_option linter.all false
set_option maxRecDepth 100000
set_option maxHeartbeats 4000000
namespace DL
open PySem PySem.Spec PyProof.Rows L2
variable [Tb]

theorem ixN_nn {n : Nat} {j : Int} (h0 : 0 ≤ j) (h1 : j < n) : ixN n j = some j.toNat := by
  unfold ixN
  simp [h0, h1]
theorem atI_nn {α : Type} {xs : List α} {j : Int} (h0 : 0 ≤ j) (h1 : j < xs.length) : atI xs j = xs[j.toNat]? := by
  unfold atI; rw [ixN_nn h0 h1]; rfl
theorem atI_ex {α : Type} {xs : List α} {j : Int} (h0 : 0 ≤ j) (h1 : j < xs.length) : ∃ z, z ∈ xs ∧ atI xs j = some z := by
  rw [atI_nn h0 h1]
  have h : j.toNat < xs.length := by omega
  exact ⟨xs[j.toNat], List.getElem_mem h, List.getElem?_eq_getElem h⟩
omit [Tb] in
@[simp] theorem atI_ofNat {α : Type} (xs : List α) (j : Nat) : atI xs (j : Int) = xs[j]? := by
  by_cases h : j < xs.length
  · rw [atI_nn (by omega) (by omega)]; simp
  · unfold atI
    have : ixN xs.length (j : Int) = none := by unfold ixN; simp; omega
    rw [this, List.getElem?_eq_none (by omega)]; rfl

omit [Tb] in
@[simp] theorem atI_0 {α : Type} (xs : List α) : atI xs 0 = xs[0]? := by
  have := atI_ofNat xs 0; simpa using this
omit [Tb] in
@[simp] theorem atI_1 {α : Type} (xs : List α) : atI xs 1 = xs[1]? := by
  have := atI_ofNat xs 1; simpa using this
omit [Tb] in
@[simp] theorem atI_lit {α : Type} (xs : List α) (n : Nat) : atI xs (no_index (OfNat.ofNat n : Int)) = xs[n]? := atI_ofNat xs n
omit [Tb] in
@[simp] theorem atI_m1 {α : Type} (xs : List α) : atI xs (-1) = xs.getLast? := by
  rw [List.getLast?_eq_getElem?]
  cases xs with
  | nil => rfl
  | cons x xs =>
    unfold atI ixN
    have h1 : ¬ (0 : Int) ≤ -1 := by omega
    have h2 : -(((x :: xs).length : Nat) : Int) ≤ -1 := by simp; omega
    rw [if_neg h1, if_pos h2]
    have : (-1 + (((x :: xs).length : Nat) : Int)).toNat = (x :: xs).length - 1 := by simp; omega
    rw [this]; rfl
def spDraw : DSp := fun cs R => ∃ a b c m, cs = [.dk a b c, .d (.int m)] ∧ 0 < m ∧ m.natAbs.log2 < 9000 ∧ ∀ r, 0 ≤ r → r < m → R (.int r) [.dk a b c, .d (.int m)]
def wDrawA : DTS := wSeq (wSet 2 (mE (wK00 0))) (wSeq (wPut00 0 (wOp pDiv (wVar 2) (wVar 1))) (wSeq (wIf (wB (wOp pEq (wK00 0) (wC (.int 0)))) (wPop0 0) wNext) (wRet (wOp pMod (wFn pInt (wCons (wVar 2) wNil)) (wVar 1)))))
def wDrawB : DTS := wSeq (wPut2 0 (wOp pAdd (wK2 0) (wC (.int 1)))) (wSeq (wSet 3 (mE (wK1 0 (wOp pMod (wFn pInt (wCons (wK2 0) wNil)) (wKlen 0)))))
  (wSeq (wSet 4 (mE (wOp pMod (wFn pInt (wCons (wOp pAdd (wOp pMod (wFn pInt (wCons (wVar 3) wNil)) (wC (.int 4294966477))) (wOp pMul (wC (.int 1640531513)) (wK2 0))) wNil)) (wC (.int 4294966477)))))
  (wSeq (wSet 4 (mE (wOp pMod (wFn pInt (wCons (wOp pAdd (wOp pMul (wVar 4) (wVar 4)) (wOp pMul (wC (.int 86028121)) (wK2 0))) wNil)) (wC (.int 4294966427)))))
  (wRet (wOp pMod (wOp pDiv (wOp pMod (wFn pInt (wCons (wOp pMul (wVar 4) (wVar 4)) wNil)) (wC (.int 4294966373))) (wC (.int 1024))) (wVar 1))))))
def wDraw : DTS := wSeq (wIf (wKne 0) wDrawA wNext) wDrawB
theorem cm_small {i j : Int} (h0 : 0 ≤ i) (h1 : i < 4294967296) : CMul i j ∨ CMulW i j := .inl (.inl ⟨by omega, by omega⟩)
theorem rd_draw {a b c : Addr} {m : Int} {xs ys : List Int} {n : Int} {E : DEnds} (hm : 0 < m) (hl : m.natAbs.log2 < 9000) (hy : ys ≠ []) (hx : ∀ x ∈ xs, 0 ≤ x)
    (k : ∀ r xs n d2 d3 d4, 0 ≤ r → r < m → (∀ x ∈ xs, (0 : Int) ≤ x) → E.rt (.int r) [.dx a b c xs n ys, .d (.int m), d2, d3, d4]) : wDraw E [.dx a b c xs n ys, .d (.int m), .em, .em, .em] := by
  unfold wDraw
  cases xs with
  | nil =>
    have hpos : 0 < ys.length := List.length_pos_iff.mpr hy
    obtain ⟨z, _, hz⟩ := atI_ex (xs := ys) (j := (n + 1) % (ys.length : Int)) (Int.emod_nonneg _ (by omega)) (Int.emod_lt_of_pos _ (by omega))
    simp [wDrawB]
    rw [hz]
    simp
    refine ⟨hpos, cm_small (by omega) (by omega), cm_small (by omega) (by omega), cm_small (by omega) (by omega), cm_small (by omega) (by omega), by decide, hm, k _ _ _ _ _ _ (Int.emod_nonneg _ (by omega)) (Int.emod_lt_of_pos _ hm) (by simp)⟩
  | cons x xs =>
    have h0 : 0 ≤ x := hx x (by simp)
    simp [wDrawA]
    refine ⟨⟨hm, hl⟩, ?_⟩
    split
    · exact ⟨hm, k _ _ _ _ _ _ (Int.emod_nonneg _ (by omega)) (Int.emod_lt_of_pos _ hm) fun y hy => hx y (by simp [hy])⟩
    · refine ⟨hm, k _ _ _ _ _ _ (Int.emod_nonneg _ (by omega)) (Int.emod_lt_of_pos _ hm) fun y hy => ?_⟩
      rcases List.mem_cons.mp hy with e | hy
      · rw [e]; exact Int.ediv_nonneg h0 (by omega)
      · exact hx y (by simp [hy])
theorem ok_draw {P : Program} {w : World} {K : PySem.W.Frag} {mg : Str → Option Value} {base : Heap} {x qual : Str} {st : Stmt} {f : Addr} {fd : FuncData} {N ps : List Str} {k : Nat} (F : Fun K x qual st f fd) (S : FnScope N ps (defScope st)) (hN : N.length = 5) (hp : ps.length = 2)
    (body : ∀ (cdv : Value) (A : Around) (outer : List Env) (s : Shared) (H : Hp) (E : XK), RoomG k (A.deeper (envOfC qual (defScope st) s.heap.objs.size f cdv)) → JSs (cxOf CX0 P w K mg base N qual (defScope st) f cdv A outer s H E).nox (defBody st) wDraw) : FnG P w K mg base CX0 (k + 1) f fd ps (liftSp K spDraw) := by
  obtain ⟨oc, od, kV, doc, pm, an, cdv, ct, osl, rfl, lk', hcd⟩ := F.ex
  refine fnG_of lk' hcd S (fun vs H Q E ⟨B, G, cs, R, rel, ⟨a, b, c, m, e, _⟩, _⟩ => by have := rel.len; subst e; simp at this; omega) fun A outer s H vs Q E hr ⟨B, G, cs, R, rel, ⟨a, b, c, m, e, hm, hl, hR⟩, kk⟩ => ?_
  subst e
  have e0 : start0 N.length [Cell.dk a b c, .d (.int m)] = [.dk a b c, .d (.int m), .em, .em, .em] := by rw [hN]; rfl
  have rel0 : Rel K B G [.dk a b c, .d (.int m), .em, .em, .em] (L2.start N vs) H := e0 ▸ rel_start rel
  obtain ⟨o, hσ, rfl, h1, h2, h3, n, xs, ys, e1, e2, e3, hy, hx⟩ := rel0.at (i := 0) rfl
  have rel1 := rel0.swap (i := 0) (c' := .dx a b c xs n ys) rfl hσ rfl ⟨rfl, h1, h2, h3, e1, e2, e3⟩
  refine ⟨_, (body cdv A outer s H E hr).nox, B, G, _, { nx := fun _ => False, rt := fun z δ => ∃ r xs n d2 d3 d4, z = .int r ∧ 0 ≤ r ∧ r < m ∧ (∀ x ∈ xs, (0 : Int) ≤ x) ∧ δ = [.dx a b c xs n ys, .d (.int m), d2, d3, d4] }, rel1, ?_, ?_⟩
  · exact rd_draw hm hl hy hx fun r xs n d2 d3 d4 q0 q1 q2 => ⟨r, xs, n, d2, d3, d4, rfl, q0, q1, q2, rfl⟩
  · refine ⟨fun _ _ _ _ h => h.elim, ?_, fun _ _ _ _ h => h.elim, fun _ _ _ _ h => h.elim⟩
    rintro v σ' H' G' z δ' ⟨r, xs', n', d2, d3, d4, rfl, q0, q1, q2, rfl⟩ sG rel' dn
    obtain ⟨o', hσ', rfl, h1', h2', h3', e1', e2', e3'⟩ := rel'.at (i := 0) rfl
    have rel2 := rel'.swap (i := 0) (c' := .dk a b c) rfl hσ' rfl ⟨rfl, h1', h2', h3', n', xs', ys, e1', e2', e3', hy, q2⟩
    exact kk v H' G' (.int r) _ (hR r q0 q1) sG (rel_end rel rel2 sG ⟨rfl, trivial⟩) dn
end DL
set_option Elab.async false
set_option linter.all false
set_option maxRecDepth 100000
set_option maxHeartbeats 4000000
namespace DL
open PySem PySem.Spec PyProof.Rows L2
variable [Tb]

theorem roomG_caller {k : Nat} (h : Room k callerA) : RoomG k callerA := ⟨h, rfl⟩
noncomputable def scrH (K : PySem.W.Frag) (a : Addr) (vs : List Value) (ns : List Int) : Hp := by
  classical
  exact fun b => if b = a ∧ K.lookup a = none then some (.frz { cls := .type "list", data := .seq vs.toArray } (.lst (ns.map V.int))) else none
section
variable {K : PySem.W.Frag} {a b : Addr} {vs : List Value} {ns : List Int}
theorem scrH_some {u : HO} (h : scrH K a vs ns b = some u) : b = a ∧ K.lookup a = none ∧ u = .frz { cls := .type "list", data := .seq vs.toArray } (.lst (ns.map V.int)) := by
  unfold scrH at h
  split at h
  · rename_i c; exact ⟨c.1, c.2, (Option.some.inj h).symm⟩
  · cases h
theorem scrH_at (h : K.lookup a = none) : scrH K a vs ns a = some (.frz { cls := .type "list", data := .seq vs.toArray } (.lst (ns.map V.int))) := by
  unfold scrH; exact if_pos ⟨rfl, h⟩
end
structure Began (K : PySem.W.Frag) (mg : Str → Option Value) (h : Heap) : Prop where
  code : K.In h
  own : h.Ns mainGlobals mg
  given : ∃ mb, h.Ns builtinsNs mb ∧ ∀ x : Str, x ≠ "__name__" → mb x = bootBuiltins x
  free : h.NoLimit
structure Script (h : Heap) (a : Addr) (vs : List Value) (ns : List Int) : Prop where
  at_a : h.get? a = some { cls := .type "list", data := .seq vs.toArray }
  nums : IntsAre vs ns
  fits : ns.length ≤ sizeLine
def spLaw : DSp := fun cs R => ∃ a ns, cs = [.scr a ns] ∧ ∀ cs', R (.bool true) cs'
noncomputable def noTb (H : Hp) : Hp := by
  classical
  exact fun a => if ∃ ps, H a = some (.tbl ps) then none else H a
theorem noTb_some {H : Hp} {a : Addr} {o : HO} (h : noTb H a = some o) : H a = some o ∧ ∀ ps, o ≠ .tbl ps := by
  unfold noTb at h
  split at h
  · cases h
  · rename_i n
    exact ⟨h, fun ps e => n ⟨ps, by rw [h, e]⟩⟩
theorem noTb_at {H : Hp} {a : Addr} {o : HO} (h : H a = some o) (n : ∀ ps, o ≠ .tbl ps) : noTb H a = some o := by
  unfold noTb
  rw [if_neg fun ⟨ps, e⟩ => n ps (by rw [h] at e; cases e; rfl)]
  exact h
theorem noTb_seq {K : PySem.W.Frag} {H : Hp} {a : Addr} {xs : List V} (h : SqL K H a xs) : SqL K (noTb H) a xs := by
  rcases h with (h | ⟨o, h⟩) | h
  · exact .inl (.inl (noTb_at h fun _ z => (nomatch z)))
  · exact .inl (.inr ⟨o, noTb_at h fun _ z => (nomatch z)⟩)
  · exact .inr h
theorem law_start {K : PySem.W.Frag} {H : Hp} {a : Addr} {ns : List Int} (h : SqL K H a (ns.map V.int)) (hT : LamX.Tabs Tb.T H := by intro p hp; cases hp) : liftSp K spLaw [.ref a] H (fun v _ => v = .bl true) fun _ _ _ => False := by
  refine ⟨fun _ => none, noTb H, [.scr a ns], fun x _ => x = .bool true, ?_, ⟨a, ns, rfl, fun _ => rfl⟩, ?_⟩
  · refine ⟨rfl, fun a o e => (noTb_some e).1, fun a o e => (by cases e), fun a => .inr rfl, fun i c o e1 e2 => ?_, fun i j c c' a e1 e2 m1 m2 => ?_, fun i c a e m => ?_, ⟨hT, ⟨fun a o e => (by cases e), fun a o e => (noTb_some e).2⟩⟩⟩
    · cases i with
      | zero => simp at e1 e2; subst e1 e2; exact ⟨rfl, noTb_seq h⟩
      | succ i => simp at e1
    · cases i with
      | zero => simp at e1; subst e1; cases m1
      | succ i => simp at e1
    · cases i with
      | zero => simp at e; subst e; cases m
      | succ i => simp at e
  · rintro v H' G' x cs' rfl _ _ dn
    exact dn_bool dn
end DL
set_option Elab.async false
set_option linter.all false
set_option maxRecDepth 100000
set_option maxHeartbeats 4000000
namespace DL
open PySem PySem.Spec PyProof.Rows L2
variable [Tb]

section
variable {X : Cx} {x : Str} {pos : Pos} {e : Expr} {es : List Expr}
theorem jpv (i : Nat) (hN : X.N[i]? = some x := by rfl) (hv : Vis X.env.scope x := by first | exact .inl rfl | exact .inr (.inl rfl) | exact .inr (.inr rfl)) (hd : (x == ("__debug__" : Str)) = false := by decide) (hcd : (x == ("__classdict__" : Str)) = false := by decide) : PE X (.Name x pos) (tVar i) := pe_var hN hv hd hcd
theorem jv (i : Nat) (hN : X.N[i]? = some x := by rfl) (hv : Vis X.env.scope x := by first | exact .inl rfl | exact .inr (.inl rfl) | exact .inr (.inr rfl)) (hd : (x == ("__debug__" : Str)) = false := by decide) (hcd : (x == ("__classdict__" : Str)) = false := by decide) : JE X (.Name x pos) (wVar i) := je_var (pe_var hN hv hd hcd)
theorem jgn (i : Nat) (nd : X.N.Nodup) (hN : X.N[i]? = some x := by rfl) (hx : Loc X.env.scope x := by first | exact .inl rfl | exact .inr rfl) (hf : X.fn x = true ∨ X.env.scope.names.lookup x = some .local := by first | exact .inl rfl | exact .inr rfl) : JG X (.Name x pos) [i] (gN i) := jg_name nd hN hx hf
theorem jset (i : Nat) {w : DM} {pos' : Pos} (nd : X.N.Nodup) (he : JM X e w) (hi : X.N[i]? = some x := by rfl) (hx : Loc X.env.scope x := by first | exact .inl rfl | exact .inr rfl) (hs : swapsWith e (some (.Name x pos')) pos.line X.env = pure false := by rfl) (hf : X.fn x = true ∨ X.env.scope.names.lookup x = some .local := by first | exact .inl rfl | exact .inr rfl) :
    JS X (.Assign [.Name x pos'] e pos) (wSet i w) := js_set nd hi hx he hs hf
theorem jpar {i j : Nat} {x y : Str} {a b : Expr} {w : DMs} {px py pt : Pos} {kt k2 pt2} (hc : X.calm = true) (hN : X.N.Nodup) (hi : X.N[i]? = some x) (hj : X.N[j]? = some y) (hij : i ≠ j) (ha : JMs X [a, b] w) (hx : X.env.scope.names.lookup x = some .local := by rfl) (hy : X.env.scope.names.lookup y = some .local := by rfl) 
    (hw : swappedStores [.Tuple [.Name x px, .Name y py] kt pt] (.Tuple [a, b] k2 pt2) X.env = pure (some [x, y]) := by rfl) (hs : swapsWithSole [.Tuple [.Name x px, .Name y py] kt pt] (.Tuple [a, b] k2 pt2) pos.line X.env = pure false := by rfl) :
    JS X (.Assign [.Tuple [.Name x px, .Name y py] kt pt] (.Tuple [a, b] k2 pt2) pos) (wPar2 i j w) := js_par2 hc hN hi hj hij hx hy ha hw hs
def pIAdd : P2 := fun x y R => match x, y with
  | .int i, .int j => R (.int (i + j))
  | .str a, .str b => a.length + b.length ≤ 1000000 ∧ R (.str (a ++ b))
  | _, _ => False
def pISub : P2 := ints2 fun i j R => R (.int (i - j))
def pIMul : P2 := ints2 fun i j R => CMul i j ∧ R (.int (i * j))
def pIDiv : P2 := ints2 fun i j R => CDiv i j ∧ R (.int (i / j))
def pIMod : P2 := ints2 fun i j R => 0 < j ∧ R (.int (i % j))
omit [Tb] in
@[simp] theorem pIAdd_ii (i j : Int) (R : PyData → Prop) : pIAdd (.int i) (.int j) R = R (.int (i + j)) := rfl
omit [Tb] in
@[simp] theorem pIAdd_ss (a b : Str) (R : PyData → Prop) : pIAdd (.str a) (.str b) R = (a.length + b.length ≤ 1000000 ∧ R (.str (a ++ b))) := rfl
omit [Tb] in
@[simp] theorem pISub_ii (i j : Int) (R : PyData → Prop) : pISub (.int i) (.int j) R = R (.int (i - j)) := rfl
omit [Tb] in
@[simp] theorem pIMul_ii (i j : Int) (R : PyData → Prop) : pIMul (.int i) (.int j) R = (CMul i j ∧ R (.int (i * j))) := rfl
omit [Tb] in
@[simp] theorem pIDiv_ii (i j : Int) (R : PyData → Prop) : pIDiv (.int i) (.int j) R = (CDiv i j ∧ R (.int (i / j))) := rfl
omit [Tb] in
@[simp] theorem pIMod_ii (i j : Int) (R : PyData → Prop) : pIMod (.int i) (.int j) R = (0 < j ∧ R (.int (i % j))) := rfl
end
end DL
set_option Elab.async false
set_option linter.all false
set_option maxRecDepth 100000
set_option maxHeartbeats 4000000
namespace DL
open PySem PySem.Spec PyProof.Rows L2
variable [Tb]

variable {g : DTG} {t : DT} {e : DE} {vs : List Nat} {xs : List PyData} {δ : DS}
theorem com_map {α : Type} {R : List PyData → DS → Prop} {u : Stop R} (as : List α) (d : α → PyData) (hx : xs = as.map d) (f : α → Option PyData)
    (hs : ∀ a ∈ as, ∀ (acc : List PyData) (K : List PyData → DS → Prop), K (acc ++ (f a).toList) δ → g (d a) δ fun δ1 => t δ1 fun b δ2 => if b = true then e δ2 fun o δ3 => lk o δ3 fun y δ4 => K (acc ++ [y]) (wipeD δ4 vs) else K acc (wipeD δ2 vs)) (k : R (as.filterMap f) δ) : comC g t e vs xs [] δ R u := by
  subst hx
  refine com_inv (fun ys acc δ' => δ' = δ ∧ ∃ bs : List α, ys = bs.map d ∧ (∀ x ∈ bs, x ∈ as) ∧ acc ++ bs.filterMap f = as.filterMap f) ⟨rfl, as, rfl, fun _ h => h, rfl⟩ ?_ ?_
  · rintro acc δ' ⟨rfl, bs, hb, _, h⟩
    have : bs = [] := by cases bs with
      | nil => rfl
      | cons => cases hb
    subst this
    have h' : acc = as.filterMap f := by simpa using h
    rw [h']; exact k
  · rintro x ys acc δ' ⟨rfl, bs, hb, hm, h⟩ K hK
    cases bs with
    | nil => cases hb
    | cons a bs =>
      simp only [List.map_cons, List.cons.injEq] at hb
      obtain ⟨rfl, rfl⟩ := hb
      refine hs a (hm a (List.mem_cons_self ..)) acc K (hK _ _ ⟨rfl, bs, rfl, fun y hy => hm y (List.mem_cons_of_mem _ hy), ?_⟩)
      rw [← h, List.filterMap_cons]
      cases f a <;> simp
theorem cutD_take {α : Type} (xs : List α) (n : Nat) : cutD xs none (some (n : Int)) = xs.take n := by
  unfold cutD
  rw [HT.sIx_none, HT.sIx_nat]
  simp only [List.drop_zero, Nat.sub_zero]
  by_cases h : n ≤ xs.length
  · rw [Nat.min_eq_left h]
  · rw [Nat.min_eq_right (by omega), List.take_of_length_le (by omega), List.take_of_length_le (by omega)]
theorem for_map {α : Type} {b : DTS} {E : DEnds} {u : Stop E} (as : List α) (d : α → PyData) (hx : xs = as.map d) (P : List α → DS → Prop) (Q : DS → Prop) (Z : PyData → DS → Prop) (h : P as δ) (h0 : ∀ δ, P [] δ → E.nx δ) (hq : ∀ δ, Q δ → E.nx δ) (hz : ∀ x δ, Z x δ → E.rt x δ)
    (hs : ∀ a bs δ, P (a :: bs) δ → ∀ (K B : DS → Prop) (T : PyData → DS → Prop), (∀ δ', P bs δ' → K δ') → (∀ δ', Q δ' → B δ') → (∀ x δ', Z x δ' → T x δ') → g (d a) δ fun δ1 => b { nx := K, rt := T, bk := B, ct := K } δ1) : forC g b xs δ E u := by
  subst hx
  refine for_inv (fun ys δ' => ∃ bs : List α, ys = bs.map d ∧ P bs δ') Q Z ⟨as, rfl, h⟩ ?_ hq hz ?_
  · rintro δ ⟨bs, hb, p⟩
    cases bs with
    | nil => exact h0 δ p
    | cons => cases hb
  · rintro x ys δ ⟨bs, hb, p⟩ K B T hK hB hT
    cases bs with
    | nil => cases hb
    | cons a bs =>
      simp only [List.map_cons, List.cons.injEq] at hb
      obtain ⟨rfl, rfl⟩ := hb
      exact hs a bs δ p K B T (fun δ' p' => hK δ' ⟨bs, rfl, p'⟩) hB hT
theorem for_plain {α : Type} {b : DTS} {E : DEnds} {u : Stop E} (as : List α) (d : α → PyData) (hx : xs = as.map d) (P : List α → DS → Prop) (h : P as δ) (h0 : ∀ δ, P [] δ → E.nx δ)
    (hs : ∀ a bs δ, P (a :: bs) δ → ∀ (K B : DS → Prop) (T : PyData → DS → Prop), (∀ δ', P bs δ' → K δ') → g (d a) δ fun δ1 => b { nx := K, rt := T, bk := B, ct := K } δ1) : forC g b xs δ E u :=
  for_map as d hx P (fun _ => False) (fun _ _ => False) h h0 (fun _ h => h.elim) (fun _ _ h => h.elim) fun a bs δ p K B T hK _ _ => hs a bs δ p K B T hK
theorem nums_0 (n : Nat) : nums 0 n = (List.range n).map fun (i : Nat) => PyData.int (i : Int) := by simp [nums]
theorem log_lt {m : Int} {k : Nat} (h0 : 0 < m) (h1 : m < 2 ^ k) : m.natAbs.log2 < k := by
  have : m.natAbs < 2 ^ k := by
    have e : (m.natAbs : Int) = m := Int.natAbs_of_nonneg (by omega)
    have h2 : ((m.natAbs : Nat) : Int) < ((2 ^ k : Nat) : Int) := by rw [e]; simpa using h1
    exact Int.ofNat_lt.mp h2
  exact (Nat.log2_lt (by omega)).mpr this
theorem ask_of {sp : DSp} {cs : List Cell} {K : PyData → List Cell → Prop} {u : Stop K} (h : sp cs K) : ask sp cs K u := h
theorem cm_l {i j : Int} (h : -(2 ^ 64) < i ∧ i < 2 ^ 64) : CMul i j ∨ CMulW i j := .inl (.inl h)
theorem cm_r {i j : Int} (h : -(2 ^ 64) < j ∧ j < 2 ^ 64) : CMul i j ∨ CMulW i j := .inl (.inr h)
theorem ask_draw {a b c : Addr} {m : Int} {K : PyData → List Cell → Prop} {u : Stop K} (h0 : 0 < m) (h1 : m < 2 ^ 64) (k : ∀ r, 0 ≤ r → r < m → K (.int r) [.dk a b c, .d (.int m)]) : ask spDraw [.dk a b c, .d (.int m)] K u :=
  ⟨a, b, c, m, rfl, h0, Nat.lt_trans (log_lt h0 h1) (by decide), k⟩
theorem ask_deck {a : Addr} {ns : List Int} {K : Cell → List Cell → Prop} {u : Stop K} (k : ∀ p q r, K (.dk p q r) [.scr a ns]) : askM spDeck [.scr a ns] K u := ⟨a, ns, rfl, k⟩
end DL
set_option Elab.async false
set_option linter.all false
set_option maxRecDepth 100000
set_option maxHeartbeats 4000000
namespace DL
open PySem PySem.Spec PyProof.Rows L2
variable [Tb]

def Sml (B L : Nat) : Nat → PyData → Prop
  | _, .none => True
  | _, .bool _ => True
  | _, .int i => i.natAbs.log2 < B
  | n + 1, .list xs => xs.length ≤ L ∧ ∀ x ∈ xs, Sml B L n x
  | n + 1, .tuple xs => xs.length ≤ L ∧ ∀ x ∈ xs, Sml B L n x
  | _, _ => False
theorem all_of {P : PyData → Bool} {F : List PyData → Bool} (h0 : F [] = true) (h1 : ∀ x xs, F (x :: xs) = (P x && F xs)) : ∀ xs : List PyData, (∀ x ∈ xs, P x = true) → F xs = true
  | [], _ => h0
  | x :: xs, h => by rw [h1, h x (List.mem_cons_self ..), all_of h0 h1 xs fun y hy => h y (List.mem_cons_of_mem _ hy)]; rfl
theorem depthAll_le {n : Nat} : ∀ xs : List PyData, (∀ x ∈ xs, x.depth ≤ n) → PyData.depthAll xs ≤ n
  | [], _ => by simp [PyData.depthAll]
  | x :: xs, h => by
    simp only [PyData.depthAll]
    have h1 := h x (List.mem_cons_self ..)
    have h2 := depthAll_le xs fun y hy => h y (List.mem_cons_of_mem _ hy)
    omega
theorem shownAll_map : ∀ xs : List PyData, PyData.shownAll xs = xs.map PyData.shown
  | [] => by simp [PyData.shownAll]
  | x :: xs => by simp [PyData.shownAll, shownAll_map xs]
omit [Tb] in
@[simp] theorem sml_int (B L n : Nat) (i : Int) : Sml B L n (.int i) = (i.natAbs.log2 < B) := by cases n <;> rfl
omit [Tb] in
@[simp] theorem sml_none (B L n : Nat) : Sml B L n .none = True := by cases n <;> rfl
omit [Tb] in
@[simp] theorem sml_bool (B L n : Nat) (b : Bool) : Sml B L n (.bool b) = True := by cases n <;> rfl
omit [Tb] in
@[simp] theorem sml_list (B L n : Nat) (xs : List PyData) : Sml B L (n + 1) (.list xs) = (xs.length ≤ L ∧ ∀ x ∈ xs, Sml B L n x) := rfl
omit [Tb] in
@[simp] theorem sml_tuple (B L n : Nat) (xs : List PyData) : Sml B L (n + 1) (.tuple xs) = (xs.length ≤ L ∧ ∀ x ∈ xs, Sml B L n x) := rfl
end DL
set_option Elab.async false
set_option linter.all false
set_option maxRecDepth 100000
set_option maxHeartbeats 4000000
namespace DL
open PySem PySem.Spec PyProof.Rows L2
variable [Tb]

def wPar3 (i j k : Nat) (w : DMs) : DTS := fun E δ => w δ fun cs δ1 => ∃ c d e, cs = [c, d, e] ∧ E.nx (((δ1.set i c).set j d).set k e)
omit [Tb] in
@[simp ↓] theorem wPar3_ap (i j k : Nat) (w : DMs) (E : DEnds) (δ : DS) : wPar3 i j k w E δ = (w δ fun cs δ1 => match cs with
  | [c, d, e] => E.nx (((δ1.set i c).set j d).set k e)
  | _ => False) := by
  unfold wPar3
  congr 1; funext cs δ1
  match cs with
  | [] => simp
  | [c] => simp
  | [c, d] => simp
  | [c, d, e] => exact propext ⟨fun ⟨c', d', e', h0, h⟩ => by cases h0; exact h, fun h => ⟨c, d, e, rfl, h⟩⟩
  | c :: d :: e :: f :: r => simp
def wAsgG (w : DE) (g : DTG) : DTS := fun E δ => w δ fun o δ1 => lk o δ1 fun x δ2 => g x δ2 E.nx
omit [Tb] in
@[simp ↓] theorem wAsgG_ap (w : DE) (g : DTG) (E : DEnds) (δ : DS) : wAsgG w g E δ = (w δ fun o δ1 => lk o δ1 fun x δ2 => g x δ2 E.nx) := rfl
section
variable {X : Cx} {pos : Pos} {e : Expr}
theorem jpar3 {i j l : Nat} {x y z : Str} {a b c : Expr} {w : DMs} {px py pz pt : Pos} {kt k2 pt2} (hc : X.calm = true) (hN : X.N.Nodup) (hi : X.N[i]? = some x) (hj : X.N[j]? = some y) (hk : X.N[l]? = some z) (hij : i ≠ j) (hik : i ≠ l) (hjk : j ≠ l) (ha : JMs X [a, b, c] w) (hx : X.env.scope.names.lookup x = some .local := by rfl) (hy : X.env.scope.names.lookup y = some .local := by rfl) (hz : X.env.scope.names.lookup z = some .local := by rfl)
    (hw : swappedStores [.Tuple [.Name x px, .Name y py, .Name z pz] kt pt] (.Tuple [a, b, c] k2 pt2) X.env = pure (some [x, y, z]) := by rfl) (hs : swapsWithSole [.Tuple [.Name x px, .Name y py, .Name z pz] kt pt] (.Tuple [a, b, c] k2 pt2) pos.line X.env = pure false := by rfl) :
    JS X (.Assign [.Tuple [.Name x px, .Name y py, .Name z pz] kt pt] (.Tuple [a, b, c] k2 pt2) pos) (wPar3 i j l w) := ps_le (ps_par3 hc hN hi hj hk hij hik hjk hx hy hz ha hw hs) fun pins s σ H D I ⟨B, G, δ, E, rel, hw, k⟩ => ⟨B, G, δ, _, rel, hw, fun vs H1 G1 cs δ1 r1 s1 rel1 hB ok1 => by
  obtain ⟨c, d, f, rfl, q⟩ := r1
  cases ok1 with
  | cons h1 d1 t1 =>
    cases t1 with
    | cons h2 d2 t2 =>
      cases t2 with
      | cons h3 d3 t3 =>
        cases t3
        rename_i v u w
        refine ⟨v, u, w, rfl, ?_⟩
        have e : fps [c, d, f] = c.fp ++ (d.fp ++ (f.fp ++ [])) := by simp [fps]
        rw [e] at rel1
        have R2 := Rel.store (i := i) rel1 (fun a m => hB a (by simp [fps, m])) (fun a m => by have := d1 a m; simpa [fps] using this) h1
        have R3 := Rel.store (i := j) R2 (fun a m => hB a (by simp [fps, m])) (fun a m => by have := d2 a m; simpa [fps] using this) h2
        have R4 := Rel.store (i := l) R3 (fun a m => hB a (by simp [fps, m])) (fun a m z => nomatch z) h3
        rw [bov_nil] at R4
        exact k.nx _ H1 G1 _ q s1 R4⟩
theorem js_asgG {tg : Expr} {w : DE} {ts : List Nat} {g : DTG} (he : JE X e w) (hg : JG X tg ts g) (hs : swapsWithSole [tg] e pos.line X.env = pure false := by rfl) (hw : swappedStores [tg] e X.env = pure none := by rfl) (h1 : (assignEach [tg] X.env).map (·.2) = [assign tg X.env] := by rfl) : JS X (.Assign [tg] e pos) (wAsgG w g) :=
  ps_le (ps_asg he hg hs hw h1) fun pins s σ H D I ⟨B, G, δ, E, rel, hw, k⟩ => ⟨B, G, δ, _, rel, hw, fun v H1 G1 o δ1 r1 s1 rel1 ok1 => by
    obtain ⟨G2, δ2, x, q, s2, rel2, dn⟩ := lk_ok rel1 ok1 r1
    exact ⟨B, G2, δ2, x, _, rel2, dn, q, fun σ' H' G' δ' r' s' rel' _ => k.nx _ _ _ _ r' (s1.trans (s2.trans s')) rel'⟩⟩
end
end DL
set_option Elab.async false
set_option linter.all false
set_option maxRecDepth 100000
set_option maxHeartbeats 4000000
namespace DL
open PySem PySem.Spec PyProof.Rows L2
variable [Tb]

theorem while_inv {c : DT} {b : DTS} {δ : DS} {E : DEnds} {u : Stop E} (W : Nat → DS → Prop) (D : DS → Prop) (Z : PyData → DS → Prop) (m0 : Nat) (h : W m0 δ) (hd : ∀ δ, D δ → E.nx δ) (hz : ∀ x δ, Z x δ → E.rt x δ)
    (hs : ∀ m δ, W m δ → ∀ (K N : DS → Prop) (T : PyData → DS → Prop), (∀ m' δ', m' < m → W m' δ' → K δ') → (∀ δ', D δ' → N δ') → (∀ x δ', Z x δ' → T x δ') → c δ fun k δ1 => if k = true then b { nx := K, rt := T, bk := N, ct := K } δ1 else N δ1) : whileC c b δ E u :=
  ⟨W, ⟨m0, h⟩, fun m δ w => hs m δ w _ _ _ (fun m' δ' hm w' => ⟨m', hm, w'⟩) hd hz⟩
theorem while_plain {c : DT} {b : DTS} {δ : DS} {E : DEnds} {u : Stop E} (W : Nat → DS → Prop) (D : DS → Prop) (m0 : Nat) (h : W m0 δ) (hd : ∀ δ, D δ → E.nx δ)
    (hs : ∀ m δ, W m δ → ∀ (K N : DS → Prop) (T : PyData → DS → Prop), (∀ m' δ', m' < m → W m' δ' → K δ') → (∀ δ', D δ' → N δ') → c δ fun k δ1 => if k = true then b { nx := K, rt := T, bk := N, ct := K } δ1 else N δ1) : whileC c b δ E u :=
  while_inv W D (fun _ _ => False) m0 h hd (fun _ _ h => h.elim) fun m δ w K N T hK hN _ => hs m δ w K N T hK hN
theorem numbered_zip {α : Type} (d : α → PyData) : ∀ (as : List α) (n : Nat), numbered n (as.map d) = (as.zipIdx n).map fun p => .tuple [.int (p.2 : Nat), d p.1]
  | [], n => by simp [numbered]
  | a :: as, n => by simp [numbered, numbered_zip d as (n + 1)]
end DL
set_option Elab.async false
set_option linter.all false
set_option maxRecDepth 100000
set_option maxHeartbeats 4000000
namespace DL
open PySem PySem.Spec PyProof.Rows L2
variable [Tb]
section
variable {l : Addr} {its : Array Value} {n : Nat} {dd : Option Addr} {sl : Array (Option Value)} {x : Int} {u : Tok}
theorem fits63 (lo : -(2 ^ 63) ≤ x) (hi : x < 2 ^ 63) : (decide (x < -(2 ^ 63)) || decide (x ≥ 2 ^ 63)) = false := by simp; omega
theorem mul_same (lo : -(2 ^ 63) ≤ x) (hi : x < 2 ^ 63) (same : (its.isEmpty || x == 1) = true) :
    Meets (Builtin.«tuple.__mul__» ⟨[.ref l, .int x u], []⟩) (fun _ R s => s.heap.get? l = some { cls := .type "tuple", dict := dd, data := .seq its n, slots := sl } ∧ R (.ok (.ret (Value.ref l))) s) := by
  refine .of_wp fun prog w A R => ?_
  rintro ⟨hp, gs, dr, tk, os⟩ ⟨at_l, h⟩
  have fit := fits63 lo hi
  have ix := AutoSeq1.idx_int
  wp_walk using wpAny_loadPart' at_l
  all_goals simp only [fit, same, Bool.false_eq_true, ↓reduceIte]
  wp_walk using wpAny_loadPart' at_l
  all_goals (try simp only [fit, same, Bool.false_eq_true, ↓reduceIte])
  all_goals (first | (wp_walk using wpAny_loadPart' at_l; exact ⟨_, rfl, h⟩) | exact ⟨_, rfl, h⟩)
theorem mul_none (lo : -(2 ^ 63) ≤ x) (le : x ≤ 0) (some' : its.isEmpty = false) :
    Meets (Builtin.«tuple.__mul__» ⟨[.ref l, .int x u], []⟩) (fun _ R s => s.heap.get? l = some { cls := .type "tuple", dict := dd, data := .seq its n, slots := sl } ∧
      R (.ok (.ret (Value.ref s.heap.objs.size))) { s with heap := s.heap.push { cls := Value.type "tuple", data := Data.seq #[] }, toks := s.toks }) := by
  refine .of_wp fun prog w A R => ?_
  rintro ⟨hp, gs, dr, tk, os⟩ ⟨at_l, h⟩
  have fit := fits63 lo (Int.lt_of_le_of_lt le (by decide))
  have once : (x == 1) = false := by simp; omega
  have ix := AutoSeq1.idx_int
  wp_walk using wpAny_loadPart' at_l
  all_goals simp only [fit, once, some', Bool.or_false, Bool.false_eq_true, ↓reduceIte]
  wp_walk using wpAny_loadPart' at_l
  all_goals (try simp only [once, some', decide_eq_true le, Bool.or_false, Bool.false_eq_true, ↓reduceIte])
  all_goals (first | (wp_walk using wpAny_loadPart' at_l; exact ⟨_, rfl, h⟩) | exact ⟨_, rfl, h⟩)
end
omit [Tb] in
theorem mul_asks {X : Cx} {s : Shared} {l : Addr} {its : Array Value} {n : Nat} {dd : Option Addr} {sl : Array (Option Value)} {k : Int} {t : Tok} {G E : Value → Shared → Prop}
    (at_l : s.heap.get? l = some { cls := .type "tuple", dict := dd, data := .seq its n, slots := sl }) {W : Shared → Value} {f : Shared → Shared}
    (own : Meets (Builtin.«tuple.__mul__» ⟨[.ref l, .int k t], []⟩) (fun _ R s => s.heap.get? l = some { cls := .type "tuple", dict := dd, data := .seq its n, slots := sl } ∧ R (.ok (.ret (W s))) (f s))) (h : G (W s) (f s)) :
    wpAny (model X.prog X.w) X.A (binaryOp .Mult (.ref l) (.int k t)) G E s := by
  have ty : s.TypeIs (.ref l) "tuple" := ⟨_, at_l, rfl⟩
  have back := int_rmul_tuple k t l its n dd sl
  exact wpAny_binaryOp_repeat_ref (by decide) ty (typeIs_int · k t) noFill_tuple_mul F.fills_int_mul F.slot_int_rmul repeat_tuple F.slot_int_index.lookup
    (call_meets F.slot_int_rmul (typeIs_int s k t) F.entry_int_rmul (F.args_int_rmul_2 _ _) back ⟨at_l, rfl, ty, call_meets F.slot_tuple_mul ty F.entry_tuple_mul (F.args_tuple_mul_2 _ _) own ⟨at_l, h⟩⟩)
def rRepM (K : PySem.W.Frag) : R2 := fun x y H Q => ∃ l k xs, x = .ref l ∧ y = .int k ∧ SqT K H l xs ∧ xs ≠ [] ∧ 2 ≤ k ∧ k ≤ 100000 ∧ k.toNat * xs.length ≤ 1000000 ∧ NewT H Q (List.replicate k.toNat xs).flatten
theorem op_repM {X : Cx} : OpR X (binaryOp .Mult) (rRepM X.K) := by
  rintro pins s σ H _ _ _ _ Q I rx ry ⟨l, k, xs, rfl, rfl, isT, some', two, many, all, q⟩
  cases rx
  obtain ⟨tok, rfl⟩ := ry
  obtain ⟨its, vals, ⟨⟨_, dd, _, sl⟩, at_l, rfl, n, rfl⟩, _⟩ := I.tuple isT
  have len := vals.length
  have all' : (its.toArray.size : Int) * k ≤ 1000000 := by
    have h := Int.ofNat_le.mpr all
    rw [Int.natCast_mul, Int.toNat_of_nonneg (by omega)] at h
    rw [List.size_toArray, ← len, Int.mul_comm]
    exact h
  have put : (List.replicate k.toNat its).flatten.length ≤ sizeLine := by rw [PyProof.Rows.lm_len_rep_flat, ← len]; exact Nat.le_trans all (by decide +kernel)
  have there : its.toArray.isEmpty = false := by
    cases vals with
    | nil => exact absurd rfl some'
    | cons => rfl
  have mul := tuple_mulW l its.toArray n dd sl k tok (fits63 (by omega) (by omega)) (by simp [there]; omega) (by simp [there]; omega) (by omega) (decide_eq_false (by rw [sizeLine_eq]; omega)) (by rw [size_rep, List.size_toArray]; exact put)
  rw [size_rep] at mul
  refine mul_asks at_l mul (q.at (k := s.toks) I ?_ (vals.rep k.toNat))
  rw [PyProof.Rows.lm_len_rep_flat]
  exact Nat.le_trans all (by decide +kernel)
def rRepA (K : PySem.W.Frag) : R2 := fun x y H Q => ∃ l k xs, x = .ref l ∧ y = .int k ∧ SqT K H l xs ∧ -1000 ≤ k ∧ k ≤ 1000 ∧ xs.length ≤ 1000 ∧ (xs = [] ∨ k = 1 → Q (.ref l) H) ∧ (¬ (xs = [] ∨ k = 1) → NewT H Q (List.replicate k.toNat xs).flatten)
section
variable {X : Cx}
theorem op_repA : OpR X (binaryOp .Mult) (rRepA X.K) := by
  rintro pins s σ H _ _ _ _ Q I rx ry ⟨l, k, xs, rfl, rfl, isT, lo, hi, short, once, else'⟩
  by_cases c : 2 ≤ k ∧ xs ≠ []
  · exact op_repM pins s σ H _ _ _ _ Q I rx ry ⟨l, k, xs, rfl, rfl, isT, c.2, c.1, by omega, Nat.le_trans (Nat.mul_le_mul (show k.toNat ≤ 1000 by omega) short) (by decide), else' (fun z => z.elim c.2 (by omega))⟩
  cases rx
  obtain ⟨tok, rfl⟩ := ry
  obtain ⟨its, vals, ⟨⟨_, dd, _, sl⟩, at_l, rfl, n, rfl⟩, _⟩ := I.tuple isT
  by_cases c' : xs = [] ∨ k = 1
  · refine mul_asks at_l (mul_same (by omega) (by omega) ?_) ⟨.ref l, _, I, rfl, once c'⟩
    rcases c' with rfl | rfl
    · cases vals; rfl
    · exact Bool.or_true _
  · have le : k ≤ 0 := by
      have : ¬ k = 1 := fun e => c' (.inr e)
      have : ¬ 2 ≤ k := fun e => c ⟨e, fun z => c' (.inl z)⟩
      omega
    have q := else' c'
    rw [Int.toNat_of_nonpos le] at q
    have q : NewT H Q ([] : List V) := q
    refine mul_asks at_l (mul_none (by omega) le ?_) (q.at (k := s.toks) I (by decide +kernel) .nil)
    cases vals with
    | nil => exact absurd (.inl rfl) c'
    | cons => rfl
def pMulT : P2 := fun x y R => match x, y with
  | .int i, .int j => (CMul i j ∨ CMulW i j) ∧ R (.int (i * j))
  | .list xs, .int k => 0 ≤ k ∧ xs.length * k.toNat ≤ 1000000 ∧ k < 1000000 ∧ R (.list (List.replicate k.toNat xs).flatten)
  | .tuple xs, .int k => (-1000 ≤ k ∧ k ≤ 1000 ∧ xs.length ≤ 1000) ∧ R (.tuple (List.replicate k.toNat xs).flatten)
  | _, _ => False
theorem d_mulT : OpD X (binaryOp .Mult) pMulT := by
  intro pins s σ H x y v u Q I rx ry ⟨B, G, δ, σ', dx, dy, R, rel, bx, by', q, k⟩
  cases dx <;> cases dy <;> first | exact False.elim q | skip
  · exact d_mul pins s σ H x y v u Q I rx ry ⟨B, G, δ, σ', _, _, R, rel, bx, by', q, k⟩
  · exact d_mul pins s σ H x y v u Q I rx ry ⟨B, G, δ, σ', _, _, R, rel, bx, by', q, k⟩
  · rename_i ds i
    obtain ⟨a, vs, rfl, ha, ta⟩ := bor_tupS bx
    obtain ⟨⟨q0, q1, q2⟩, q3⟩ := q
    refine op_repA pins s σ H _ _ v u Q I rx ry ⟨a, i, vs, rfl, bor_int by', sqT_mono rel.sg ha.sq, q0, q1, by rw [ta.len]; exact q2, fun hc => ?_, fun hc p o hd np => ?_⟩
    · refine k _ H G _ q3 (Same.refl _) rel ?_
      rcases hc with rfl | rfl
      · have : ds = [] := by have := ta.len; simp at this; exact List.eq_nil_of_length_eq_zero this.symm
        subst this
        rw [List.flatten_replicate_nil] <;> exact Dn.tup ha ta
      · have e : (List.replicate (1 : Int).toNat ds).flatten = ds := by simp
        rw [e]; exact Dn.tup ha ta
    · obtain ⟨rel3, s3, at3⟩ := rel.laidT np hd
      exact k _ _ _ _ q3 s3 rel3 (Dn.tup at3 ((ta.rep _).mono s3))
omit [Tb] in
@[simp ↓] theorem pMulT_ii (i : Int) (j : Int) (R : PyData → Prop) : pMulT (.int i) (.int j) R = ((CMul i j ∨ CMulW i j) ∧ R (.int (i * j))) := rfl
omit [Tb] in
@[simp ↓] theorem pMulT_li (xs : List PyData) (k : Int) (R : PyData → Prop) : pMulT (.list xs) (.int k) R = (0 ≤ k ∧ xs.length * k.toNat ≤ 1000000 ∧ k < 1000000 ∧ R (.list (List.replicate k.toNat xs).flatten)) := rfl
omit [Tb] in
@[simp ↓] theorem pMulT_ti (xs : List PyData) (k : Int) (R : PyData → Prop) : pMulT (.tuple xs) (.int k) R = ((-1000 ≤ k ∧ k ≤ 1000 ∧ xs.length ≤ 1000) ∧ R (.tuple (List.replicate k.toNat xs).flatten)) := rfl
end
end DL
set_option Elab.async false
set_option linter.all false
set_option maxRecDepth 100000
set_option maxHeartbeats 4000000
namespace DL
open PySem PySem.Spec PyProof.Rows L2
variable [Tb]
mutual
def RdN (h : Heap) (v : Value) : PyData → Prop
  | .dict kvs => kvs = [] ∧ ∃ a o es n, v = .ref a ∧ a ≠ sysModules ∧ h.get? a = some o ∧ o.cls = .type "dict" ∧ o.data = .dict es n ∧ es.toList = []
  | .list xs => ∃ a o vs n, v = .ref a ∧ h.get? a = some o ∧ o.cls = .type "list" ∧ o.data = .seq vs n ∧ RdNs h vs.toList xs
  | .tuple xs => ∃ a o vs n, v = .ref a ∧ h.get? a = some o ∧ o.cls = .type "tuple" ∧ o.data = .seq vs n ∧ RdNs h vs.toList xs
  | d => Reads h v d []
def RdNs (h : Heap) (vs : List Value) : List PyData → Prop
  | [] => vs = []
  | d :: ds => ∃ v us, vs = v :: us ∧ RdN h v d ∧ RdNs h us ds
end
mutual
theorem RdN.reads {h : Heap} : ∀ (d : PyData) {v : Value}, RdN h v d → ∃ as, Reads h v d as
  | .none, _, r => ⟨_, r⟩
  | .bool _, _, r => ⟨_, r⟩
  | .int _, _, r => ⟨_, r⟩
  | .str _, _, r => ⟨_, r⟩
  | .list xs, _, ⟨_, _, _, _, e, h1, h2, h3, h4⟩ => (RdNs.reads xs h4).elim fun _ q => e ▸ ⟨_, Reads.list h1 h2 h3 q⟩
  | .tuple xs, _, ⟨_, _, _, _, e, h1, h2, h3, h4⟩ => (RdNs.reads xs h4).elim fun _ q => e ▸ ⟨_, Reads.tuple h1 h2 h3 q⟩
  | .dict _, _, ⟨z, _, _, _, _, e, _, h1, h2, h3, h4⟩ => e ▸ z ▸ ⟨_, Reads.dict (kvs := []) (as := []) (bs := []) h1 h2 h3 (by rw [h4]; exact ReadsAll.nil) (by rw [h4]; exact ReadsAll.nil)⟩
theorem RdNs.reads {h : Heap} : ∀ (ds : List PyData) {vs : List Value}, RdNs h vs ds → ∃ as, ReadsAll h vs ds as
  | [], _, e => e ▸ ⟨_, ReadsAll.nil⟩
  | d :: ds, _, ⟨_, _, e, a, b⟩ => (RdN.reads d a).elim fun _ p => (RdNs.reads ds b).elim fun _ q => e ▸ ⟨_, ReadsAll.cons p q⟩
end
section
variable {prog : Program} {w : World} {h₀ : Heap}
def Tells (prog : Program) (w : World) (h₀ : Heap) (v : Value) (d : PyData) : Prop :=
  (∃ as, Reads h₀ v d as) ∧ (d.showable = true → d.shown.length ≤ sizeLine → ∃ bs, ReadAtMost h₀ d.depth bs ∧ ReprK prog w bs h₀ d.depth v d.shown)
def TellsAll (prog : Program) (w : World) (h₀ : Heap) (vs : List Value) (ds : List PyData) : Prop :=
  (∃ as, ReadsAll h₀ vs ds as) ∧ (PyData.showableAll ds = true → (∀ t ∈ PyData.shownAll ds, t.length ≤ sizeLine) → ∃ bs, ReadAtMost h₀ (PyData.depthAll ds) bs ∧ ReprAllK prog w bs h₀ (PyData.depthAll ds) vs (PyData.shownAll ds))
def Shows (prog : Program) (w : World) (h₀ : Heap) (v : Value) (d : PyData) : Prop :=
  d.showable = true → d.shown.length ≤ sizeLine → ∃ a T idr, v = .ref a ∧ ShowsBy prog w h₀ a d T idr
theorem TellsAll.none : TellsAll prog w h₀ [] [] := ⟨⟨_, .nil⟩, fun _ _ => ⟨[], nofun, .nil⟩⟩
theorem TellsAll.more {v : Value} {d : PyData} {vs : List Value} {ds : List PyData} (a : Tells prog w h₀ v d) (b : TellsAll prog w h₀ vs ds) : TellsAll prog w h₀ (v :: vs) (d :: ds) := by
  obtain ⟨⟨as, ra⟩, ka⟩ := a
  obtain ⟨⟨bs, rb⟩, kb⟩ := b
  refine ⟨⟨_, .cons ra rb⟩, fun sh short => ?_⟩
  rw [PyData.showableAll, Bool.and_eq_true] at sh
  rw [PyData.shownAll] at short ⊢
  obtain ⟨cs, below_c, one⟩ := ka sh.1 (short _ List.mem_cons_self)
  obtain ⟨ds', below_d, rest⟩ := kb sh.2 fun t m => short t (List.mem_cons_of_mem _ m)
  rw [PyData.depthAll]
  exact ⟨cs ++ ds', (below_c.mono (Nat.le_max_left _ _)).append (below_d.mono (Nat.le_max_right _ _)), .cons ((one.more fun _ => List.mem_append_left _).level_le (Nat.le_max_left _ _)) (rest.more_le (fun _ => List.mem_append_right _) (Nat.le_max_right _ _))⟩
theorem tells_tuple {a : Addr} {o : Obj} {vs : Array Value} {n : Nat} {xs : List PyData} (at_a : h₀.get? a = some o) (cl : o.cls = .type "tuple") (dt : o.data = .seq vs n) (all : TellsAll prog w h₀ vs.toList xs) :
    Tells prog w h₀ (.ref a) (.tuple xs) ∧ Shows prog w h₀ (.ref a) (.tuple xs) := by
  obtain ⟨⟨as, rs⟩, told⟩ := all
  have r : Reads h₀ (.ref a) (.tuple xs) as := .tuple at_a cl dt rs
  have go : (PyData.tuple xs).showable = true → (PyData.tuple xs).shown.length ≤ sizeLine → ∃ bs, ReadAtMost h₀ (PyData.depthAll xs) bs ∧ a ∉ bs ∧ ReprAllK prog w bs h₀ (PyData.depthAll xs) vs.toList (PyData.shownAll xs) := fun sh short => by
    rw [PyData.showable] at sh
    rw [PyData.shown] at short
    obtain ⟨bs, below, k⟩ := told sh fun t m => Nat.le_trans (tupleText_mem_le m) short
    exact ⟨bs, below, not_mem_of_deeper r (by rw [PyData.depth]; omega) below, k⟩
  refine ⟨⟨⟨_, r⟩, fun sh short => ?_⟩, fun sh short => ?_⟩ <;> obtain ⟨bs, below, out, k⟩ := go sh short
  · rw [PyData.depth, PyData.shown]
    exact ⟨a :: bs, ReadAtMost.cons r (by rw [PyData.depth]; omega) below, ReprK.tuple at_a cl dt out k⟩
  · refine ⟨a, "tuple", "tuple.__repr__", rfl, { slotRepr := F.slot_tuple_repr, slotStr := F.slot_tuple_str, slotFmt := F.slot_tuple_format, typeIs := fun s kept => ⟨o, kept _ _ at_a, cl⟩, call := ?_ }⟩
    intro A E s Q calm room kept done
    rw [PyData.depth] at room
    rw [PyData.shown] at done short
    exact call_tuple_reprK at_a cl dt out k calm (fun b _ => Clear.nil b) room kept done short
theorem tells_list {a : Addr} {o : Obj} {vs : Array Value} {n : Nat} {xs : List PyData} (at_a : h₀.get? a = some o) (cl : o.cls = .type "list") (dt : o.data = .seq vs n) (all : TellsAll prog w h₀ vs.toList xs) :
    Tells prog w h₀ (.ref a) (.list xs) ∧ Shows prog w h₀ (.ref a) (.list xs) := by
  obtain ⟨⟨as, rs⟩, told⟩ := all
  have r : Reads h₀ (.ref a) (.list xs) (a :: as) := .list at_a cl dt rs
  have go : (PyData.list xs).showable = true → (PyData.list xs).shown.length ≤ sizeLine → ∃ bs, ReadAtMost h₀ (PyData.depthAll xs) bs ∧ a ∉ bs ∧ ReprAllK prog w bs h₀ (PyData.depthAll xs) vs.toList (PyData.shownAll xs) := fun sh short => by
    rw [PyData.showable] at sh
    rw [PyData.shown] at short
    obtain ⟨bs, below, k⟩ := told sh fun t m => Nat.le_trans (listText_mem_le m) short
    exact ⟨bs, below, not_mem_of_deeper r (by rw [PyData.depth]; omega) below, k⟩
  have slots (call) : ShowsBy prog w h₀ a (.list xs) "list" "list.__repr__" := { slotRepr := F.slot_list_repr.toG, slotStr := F.slot_list_str, slotFmt := F.slot_list_format, typeIs := fun s kept => ⟨o, kept _ _ at_a, cl⟩, call := call }
  rcases vs with ⟨_ | ⟨v, us⟩⟩
  · cases rs
    refine ⟨⟨⟨_, r⟩, fun _ _ => ⟨[a], ReadAtMost.cons r (Nat.le_refl _) nofun, ?_⟩⟩, fun _ _ => ⟨a, _, _, rfl, slots ?_⟩⟩
    · rw [PyData.shown, PyData.shownAll, listText_nil]
      exact ReprK.listEmpty at_a cl dt
    · intro A E s Q calm room kept done
      rw [PyData.shown, PyData.shownAll, listText_nil] at done
      exact call_list_repr_empty ⟨o, kept _ _ at_a, cl⟩ (kept _ _ at_a) dt (done s.heap _ _ fun _ _ e => e)
  · have each : ∀ {bs : List Addr}, ReprAllK prog w bs h₀ (PyData.depthAll xs) (v :: us) (PyData.shownAll xs) → (PyData.shownAll xs).length = (v :: us).toArray.size ∧ ∀ (i : Nat) (y : Value), (v :: us).toArray[i]? = some y → ∃ t, (PyData.shownAll xs)[i]? = some t ∧ ReprK prog w bs h₀ (PyData.depthAll xs) y t :=
      fun k => ⟨k.length_eq, fun i y e => k.item i y (by rw [← List.getElem?_toArray]; exact e)⟩
    refine ⟨⟨⟨_, r⟩, fun sh short => ?_⟩, fun sh short => ?_⟩ <;> obtain ⟨bs, below, out, k⟩ := go sh short
    · rw [PyData.depth, PyData.shown]
      exact ⟨a :: bs, ReadAtMost.cons r (by rw [PyData.depth]; omega) below, ReprK.list at_a cl dt out (each k).1 (each k).2⟩
    · refine ⟨a, _, _, rfl, slots ?_⟩
      intro A E s Q calm room kept done
      rw [PyData.depth] at room
      rw [PyData.shown] at done short
      exact call_list_reprK at_a cl dt out (each k).1 (each k).2 calm (fun b _ => Clear.nil b) room kept done short
theorem tells_empty {a : Addr} {o : Obj} {es : Array DictEntry} {n : Nat} (other : a ≠ sysModules) (at_a : h₀.get? a = some o) (cl : o.cls = .type "dict") (dt : o.data = .dict es n) (no : es.toList = []) :
    Tells prog w h₀ (.ref a) (.dict []) ∧ Shows prog w h₀ (.ref a) (.dict []) := by
  have r : Reads h₀ (.ref a) (.dict []) [a] := Reads.dict (kvs := []) (as := []) (bs := []) at_a cl dt (by rw [no]; exact ReadsAll.nil) (by rw [no]; exact ReadsAll.nil)
  have out : (a == sysModules) = false := beq_false_of_ne other
  have entries : ReprEntriesK prog w [] h₀ 0 es.toList [] := by rw [no]; exact .nil
  have deep : (PyData.dict []).depth = 0 + 1 := by rw [PyData.depth, PyData.depthKv]
  have text : (PyData.dict []).shown = dictText [] := by rw [PyData.shown, PyData.shownKv]
  refine ⟨⟨⟨_, r⟩, fun _ _ => ⟨[a], ReadAtMost.cons r (Nat.le_refl _) nofun, ?_⟩⟩, fun _ short => ⟨a, "dict", "dict.__repr__", rfl, { slotRepr := F.slot_dict_repr, slotStr := F.slot_dict_str, slotFmt := F.slot_dict_format, typeIs := fun s kept => ⟨o, kept _ _ at_a, cl⟩, call := ?_ }⟩⟩
  · rw [deep, text]
    exact ReprK.dict at_a cl dt out List.not_mem_nil entries
  · intro A E s Q calm room kept done
    rw [deep] at room
    rw [text] at done short
    exact call_dict_reprK at_a cl dt out List.not_mem_nil entries calm (fun b _ => Clear.nil b) room kept done short
theorem tells_flat {v : Value} {d : PyData} {t : Str} (r : Reads h₀ v d []) (is : d.showable = true → d.shown.length ≤ sizeLine → ReprIs prog w v d.shown) : Tells prog w h₀ v d :=
  ⟨⟨_, r⟩, fun sh short => ⟨[], nofun, .of_is (is sh short) _ _ _⟩⟩
mutual
theorem RdN.tells : ∀ (d : PyData) {v : Value}, RdN h₀ v d → Tells prog w h₀ v d
  | .none, _, r => tells_flat (t := "") r fun _ _ => by cases r; exact ReprIs.none
  | .bool _, _, r => tells_flat (t := "") r fun _ _ => by cases r; exact ReprIs.bool _
  | .int _, _, r => tells_flat (t := "") r fun sh _ => by cases r; exact ReprIs.int _ (by simpa [PyData.showable] using sh)
  | .str _, _, r => tells_flat (t := "") r fun _ short => by cases r; exact ReprIs.str _ _ (by rw [PyData.shown] at short; exact short)
  | .list xs, _, r => by obtain ⟨a, o, vs, n, rfl, h1, h2, h3, h4⟩ := r; exact (tells_list h1 h2 h3 (RdNs.tells xs h4)).1
  | .tuple xs, _, r => by obtain ⟨a, o, vs, n, rfl, h1, h2, h3, h4⟩ := r; exact (tells_tuple h1 h2 h3 (RdNs.tells xs h4)).1
  | .dict kvs, _, r => by obtain ⟨rfl, a, o, es, n, rfl, h1, h2, h3, h4, h5⟩ := r; exact (tells_empty h1 h2 h3 h4 h5).1
theorem RdNs.tells : ∀ (ds : List PyData) {vs : List Value}, RdNs h₀ vs ds → TellsAll prog w h₀ vs ds
  | [], _, r => by cases r; exact .none
  | d :: ds, _, r => by obtain ⟨v, us, rfl, a, b⟩ := r; exact .more (RdN.tells d a) (RdNs.tells ds b)
end
theorem RdN.shows {a : Addr} : ∀ {d : PyData}, RdN h₀ (.ref a) d → Shows prog w h₀ (.ref a) d
  | .none, r => nomatch (show Reads _ _ _ _ from r)
  | .bool _, r => nomatch (show Reads _ _ _ _ from r)
  | .int _, r => nomatch (show Reads _ _ _ _ from r)
  | .str _, r => nomatch (show Reads _ _ _ _ from r)
  | .list xs, r => by obtain ⟨b, o, vs, n, e, h1, h2, h3, h4⟩ := r; cases e; exact (tells_list h1 h2 h3 (RdNs.tells xs h4)).2
  | .tuple xs, r => by obtain ⟨b, o, vs, n, e, h1, h2, h3, h4⟩ := r; cases e; exact (tells_tuple h1 h2 h3 (RdNs.tells xs h4)).2
  | .dict kvs, r => by obtain ⟨rfl, b, o, es, n, e, h1, h2, h3, h4, h5⟩ := r; cases e; exact (tells_empty h1 h2 h3 h4 h5).2
theorem repr_of_N {a : Addr} {d : PyData} {A : Around} {E : Value → Shared → Prop} {s : Shared} {Q : Value → Shared → Prop} (r : RdN s.heap (.ref a) d) (sh : d.showable = true) (short : d.shown.length ≤ sizeLine) (calm : A.guards = some []) (room : A.units + (d.depth + 1) < cLine)
    (done : ∀ h' u tk, (∀ b o, s.heap.get? b = some o → h'.get? b = some o) → Q (.str d.shown u) { s with heap := h', toks := tk }) : wpAny (model prog w) A (call (.builtin "repr") [.ref a]) Q E s := by
  obtain ⟨_, T, idr, e, S⟩ := RdN.shows (prog := prog) (w := w) r sh short
  cases e
  have in1 : A.in1.units = A.units + 1 := rfl
  exact call_repr_slot (by omega) (S.typeIs s fun _ _ e => e) S.slotRepr (S.call A.in1 E s _ calm (by omega) (fun _ _ e => e) fun h' u tk kept => ⟨_, _, rfl, done h' u tk kept⟩)
end
mutual
def noO : PyData → Bool
  | .list xs | .tuple xs => noOL xs
  | .dict (_ :: _) => false
  | _ => true
def noOL : List PyData → Bool
  | [] => true
  | x :: xs => noO x && noOL xs
end
mutual
theorem noO_show {K : PySem.W.Frag} {G : Hp} : ∀ {v : V} {d : PyData}, Dn K G v d → d.showable = true → noO d = true
  | _, _, .non, _ => rfl
  | _, _, .bl _, _ => rfl
  | _, _, .int _, _ => rfl
  | _, _, .str _, _ => rfl
  | _, _, .lst _ t, h => by rw [noO]; exact noOL_show t (by simpa [PyData.showable] using h)
  | _, _, .tup _ t, h => by rw [noO]; exact noOL_show t (by simpa [PyData.showable] using h)
  | _, _, .dic _ _, _ => rfl
  | _, _, .ob _ _ _ _, h => by
    have z : ¬ markI.natAbs.log2 < 1920 := by decide +kernel
    simp [PyData.showable, PyData.showableKv, z] at h
  | _, _, .fK _ _ _, h => by
    have z : ¬ markI.natAbs.log2 < 1920 := by decide +kernel
    simp [PyData.showable, PyData.showableKv, z] at h
  | _, _, .fT _ _ _, h => by
    have z : ¬ markI.natAbs.log2 < 1920 := by decide +kernel
    simp [PyData.showable, PyData.showableKv, z] at h
theorem noOL_show {K : PySem.W.Frag} {G : Hp} : ∀ {vs : List V} {ds : List PyData}, DnL K G vs ds → PyData.showableAll ds = true → noOL ds = true
  | _, _, .nil, _ => rfl
  | _, _, .cons a b, h => by
    rw [PyData.showableAll, Bool.and_eq_true] at h
    rw [noOL, noO_show a h.1, noOL_show b h.2]
    rfl
end
mutual
theorem noO_lay : ∀ d : PyData, d.canLay0 = true → noO d = true
  | .none, _ => rfl
  | .bool _, _ => rfl
  | .int _, _ => rfl
  | .str _, _ => rfl
  | .list xs, h => by rw [noO]; exact noOL_lay xs (by simpa [PyData.canLay0] using h)
  | .tuple xs, h => by rw [noO]; exact noOL_lay xs (by simpa [PyData.canLay0] using h)
  | .dict _, h => by simp [PyData.canLay0] at h
theorem noOL_lay : ∀ ds : List PyData, PyData.canLayAll0 ds = true → noOL ds = true
  | [], _ => rfl
  | d :: ds, h => by
    rw [PyData.canLayAll0, Bool.and_eq_true] at h
    rw [noOL, noO_lay d h.1, noOL_lay ds h.2]
    rfl
end
omit [Tb] in
@[simp] theorem noO_i (i : Int) : noO (.int i) = true := rfl
omit [Tb] in
@[simp] theorem noO_b (i : Bool) : noO (.bool i) = true := rfl
omit [Tb] in
@[simp] theorem noO_s (i : Str) : noO (.str i) = true := rfl
omit [Tb] in
@[simp] theorem noO_n : noO .none = true := rfl
omit [Tb] in
@[simp] theorem noOL_e : noOL [] = true := rfl
section
variable {X : Cx} {pins : List (Addr × Obj)} {σ : L2.St} {H : Hp} {s : Shared}
mutual
theorem Dn.rdN (I : L2.Inv X pins σ H s) : ∀ (d : PyData) {v : V} {u : Value}, noO d = true → Dn X.K H v d → RelV v u → RdN s.heap u d
  | .none, _, _, _, h, r => by cases h; cases r; exact Reads.none
  | .bool b, _, _, _, h, r => by cases h; cases r; exact Reads.bool b
  | .int i, _, _, _, h, r => by cases h; obtain ⟨t, rfl⟩ := r; exact Reads.int i t
  | .str x, _, _, _, h, r => by cases h; obtain ⟨t, rfl⟩ := r; exact Reads.str x t
  | .list ds, _, _, c, .lst h t, r => by
    rw [noO] at c
    cases r
    obtain ⟨its, rv, ⟨o, n, ho, hc, _, hd⟩, _⟩ := I.list (SqL.of h)
    exact ⟨_, o, _, n, rfl, ho, hc, hd, DnL.rdN I ds c t rv⟩
  | .tuple ds, _, _, c, .tup h t, r => by
    rw [noO] at c
    cases r
    obtain ⟨its, rv, ⟨o, ho, hc, n, hd⟩, _⟩ := I.tuple h.sq
    exact ⟨_, o, _, n, rfl, ho, hc, hd, DnL.rdN I ds c t rv⟩
  | .dict (_ :: _), _, _, c, _, _ => by simp [noO] at c
  | .dict [], _, _, _, .dic h n, r => by
    cases r
    obtain ⟨_, other, vs, kv, o, es, ep, ho, ⟨hc, _⟩, hd, _, hp, _⟩ := I.hok _ _ h
    cases kv
    have no : ∀ l, Pairs (mixKind X.prog X.w) l ([] : List (L2.Key × Value)) → l = [] := fun l q => by cases q; rfl
    exact ⟨rfl, _, o, es, ep, rfl, beq_eq_false_iff_ne.mp other, ho, hc, hd, no _ hp⟩
theorem DnL.rdN (I : L2.Inv X pins σ H s) : ∀ (ds : List PyData) {vs : List V} {us : List Value}, noOL ds = true → DnL X.K H vs ds → Vals vs us → RdNs s.heap us ds
  | [], _, _, _, h, r => by cases h; cases r; exact rfl
  | d :: ds, _, _, c, .cons a b, .cons r1 r2 => by
    rw [noOL, Bool.and_eq_true] at c
    exact ⟨_, _, rfl, Dn.rdN I d c.1 a r1, DnL.rdN I ds c.2 b r2⟩
end
end

def pReprN : PN := one fun x R => x.showable = true ∧ x.depth ≤ 60 ∧ x.shown.length ≤ 16000000 ∧ R (.str x.shown)
section
variable {X : Cx}
theorem c_reprN (hg : X.A.guards = some []) (hu : X.A.units + 64 < cLine) : CallD X (.builtin "repr") pReprN := by
  intro pins s σ H vs us Q I r ⟨B, G, δ, σ', ds, R, rel, b, q, k⟩
  match ds, q with
  | [d], ⟨q1, q3, q4, q⟩ =>
    obtain ⟨v, rfl, bd⟩ := b.one
    obtain ⟨u, rfl, ru⟩ := vals1 r; have dn := bd.dn rel
    have fin := k (.str d.shown) H G _ q (Same.refl _) rel (Dn.str _)
    have hsz : d.shown.length ≤ sizeLine := Nat.le_trans q4 (by decide)
    have rd := Dn.rdN I d (noO_show dn q1) dn ru
    have go : ∀ {x : Str} {t : Tok} {s' : Shared}, x = d.shown → Inv X pins σ H s' → EP X pins σ Q (.str x t) s' := fun {x t s'} e I' => by
      subst e
      exact ⟨.str d.shown, H, I', ⟨t, rfl⟩, fin⟩
    have big : ∀ a, u = .ref a → wpAny (model X.prog X.w) X.A (call (.builtin "repr") [u]) (EP X pins σ Q) X.xe s := fun a e => by
      subst e
      exact repr_of_N rd q1 hsz hg (by omega) fun h' u tk hk => go rfl (I.kept hk)
    cases dn with
    | non => cases ru; exact PySem.P.repr_of_none (go rfl (I.tok _))
    | bl b => cases ru; exact PySem.P.repr_of_bool (go (by cases b <;> simp [PyData.shown]) (I.tok _))
    | int i => obtain ⟨t, rfl⟩ := ru; exact PySem.P.repr_of_int (by simpa [PyData.showable] using q1) (go (by simp [PyData.shown]) (I.tok _))
    | str z => obtain ⟨t, rfl⟩ := ru; exact PySem.P.repr_of_str (go (by simp [PyData.shown]) (I.tok _)) (by simpa [PyData.shown] using hsz)
    | lst h t => cases ru; exact big _ rfl
    | tup h t => cases ru; exact big _ rfl
    | dic h n => cases ru; exact big _ rfl
    | ob h k e t => cases ru; exact big _ rfl
    | fK h e t => cases ru; exact big _ rfl
    | fT h e t => cases ru; exact big _ rfl
end
omit [Tb] in
@[simp ↓] theorem pReprN_x (x : PyData) (R : PyData → Prop) : pReprN [x] R = (x.showable = true ∧ x.depth ≤ 60 ∧ x.shown.length ≤ 16000000 ∧ R (.str x.shown)) := rfl
end DL
set_option Elab.async false
set_option linter.all false
set_option maxRecDepth 100000
set_option maxHeartbeats 4000000
namespace DL
open PySem PySem.Spec PyProof.Rows L2
variable [Tb]
theorem fm_congr {α β : Type} {f g : α → Option β} : ∀ {l : List α}, (∀ x ∈ l, f x = g x) → l.filterMap f = l.filterMap g
  | [], _ => rfl
  | x :: l, h => by rw [List.filterMap_cons, List.filterMap_cons, h x (List.mem_cons_self ..), fm_congr fun y hy => h y (List.mem_cons_of_mem _ hy)]
def downTo : Nat → Option Int
  | 0 => none
  | _ + 1 => some 0
section
variable {prog : Program} {w : World} {A : Around} {E : Value → Shared → Prop} {s : Shared}
theorem places_back {n d : Nat} (d1 : d ≤ 1) (le : d ≤ n) : Builtin.Slice.sliceAdjust none (downTo d) (-1) (n : Int) = ((n : Int) - 1, (d : Int) - 1) ∧ Builtin.Slice.slicePlaces ((n : Int) - 1) ((d : Int) - 1) (-1) = n - d := by
  constructor
  · rcases Nat.le_one_iff_eq_zero_or_eq_one.mp d1 with rfl | rfl
    · rfl
    · unfold Builtin.Slice.sliceAdjust; simp [downTo]; omega
  · unfold Builtin.Slice.slicePlaces
    rw [if_neg (by decide), Int.neg_neg, Int.ediv_one]
    split <;> omega
theorem applied_back {sl : Addr} {vl vu vs : Value} {n d : Nat} {Q : Int × Int × Nat → Shared → Prop} (d1 : d ≤ 1) (le : d ≤ n) (hs : s.heap.IsSliceOf sl vl vu vs) (pl : IsPart vl none) (pu : IsPart vu (downTo d)) (ps : IsPart vs (some (-1)))
    (h : Q ((n : Int) - 1, -1, n - d) s) : wpAny (model prog w) A (Builtin.Slice.sliceApplied (.ref sl) (pure (n : Int))) Q E s := by
  obtain ⟨o, at_sl, _, parts⟩ := id hs
  obtain ⟨ends, count⟩ := places_back d1 le
  have part {i : Nat} {x : Value} {G : Value → Shared → Prop} (e : #[vl, vu, vs][i]? = some x) (g : G x s) : wpAny (model prog w) A (field (.ref sl) i) G E s := wpAny_field at_sl parts e g
  have last : wpAny (model prog w) A (match Builtin.Slice.sliceAdjust none (downTo d) (-1) (n : Int) with | (lo, hi) => pure (lo, (-1 : Int), Builtin.Slice.slicePlaces lo hi (-1))) Q E s := by
    rw [ends]; dsimp only; rw [count]; exact wpAny_pure h
  delta Builtin.Slice.sliceApplied Builtin.Slice.sliceFields
  refine wpAny_bind (wpAny_bind (part rfl (wpAny_bind (part rfl (wpAny_bind (part rfl (wpAny_pure (wpAny_bind (HT.slicePart_ ps ?_)))))))))
  exact wpAny_ite_false (by decide) (wpAny_bind (HT.slicePart_ pl (wpAny_bind (HT.slicePart_ pu (wpAny_bind (wpAny_pure last))))))
theorem picks_back (xs : Array Value) (d : Nat) : ((List.range (xs.size - d)).filterMap fun (m : Nat) => xs[((xs.size : Int) - 1 + (m : Int) * (-1)).toNat]?) = (xs.toList.drop d).reverse := by
  rw [fm_congr (g := fun m => some ((xs.toList.drop d).reverse[m]?.getD .none)) fun m hm => ?_]
  · refine List.ext_getElem? fun i => ?_
    rw [show (fun m => some ((xs.toList.drop d).reverse[m]?.getD Value.none)) = some ∘ fun m => (xs.toList.drop d).reverse[m]?.getD Value.none from rfl, List.filterMap_eq_map, List.getElem?_map]
    by_cases hi : i < xs.size - d
    · rw [List.getElem?_range hi, List.getElem?_eq_getElem (by simp; exact hi)]; simp [hi]
    · rw [List.getElem?_eq_none (by simp; omega), List.getElem?_eq_none (by simp; omega)]; rfl
  · have hm := List.mem_range.mp hm
    have at_m : ((xs.size : Int) - 1 + (m : Int) * (-1)).toNat = xs.size - 1 - m := by omega
    rw [at_m, List.getElem?_eq_getElem (l := (xs.toList.drop d).reverse) (by simp; exact hm), Array.getElem?_eq_getElem (by omega)]
    simp only [List.getElem_reverse, List.getElem_drop, List.length_drop, Array.length_toList, Option.getD_some, Array.getElem_toList]
    congr 2
    omega
theorem item_back {t sl : Addr} {its : Array Value} {d : Nat} {vl vu vs : Value} {Q : Value → Shared → Prop} (d1 : d ≤ 1) (le : d ≤ its.size) (isT : IsTup s.heap t its) (isS : s.heap.IsSliceOf sl vl vu vs) (pl : IsPart vl none) (pu : IsPart vu (downTo d)) (ps : IsPart vs (some (-1)))
    (fits : its.size ≤ sizeLine) (h : Q (.ref s.heap.objs.size) { s with heap := s.heap.push { cls := .type "tuple", data := .seq (its.toList.drop d).reverse.toArray } }) : wpAny (model prog w) A (getItem (.ref t) (.ref sl)) Q E s := by
  have room : sizeOk (.seq (its.toList.drop d).reverse.toArray) := show (its.toList.drop d).reverse.toArray.size ≤ sizeLine by simp; omega
  have notAll : ¬ (((its.size : Int) - 1 == 0 && (-1 : Int) == 1 && its.size - d == its.size) = true) := by rw [show ((-1 : Int) == 1) = false from rfl, Bool.and_false, Bool.false_and]; decide
  have made {A' : Around} {G : Value → Shared → Prop} (g : G (.ref s.heap.objs.size) { s with heap := s.heap.push { cls := .type "tuple", data := .seq (its.toList.drop d).reverse.toArray } }) :
      wpAny (model prog w) A' (Builtin.«tuple.__getitem__» ⟨[.ref t, .ref sl], []⟩) (fun fin z => ∃ v, fin = .done (.ret v) ∧ G v z) E s := by
    refine wpAny_bind (m := Builtin.Tuple.tupleItemsOf (.ref t)) (tupleItemsOf_ isT (wpAny_bind (wpAny_typeOf (show s.TypeIs (.ref sl) "slice" from isS.imp fun _ z => ⟨z.1, z.2.1⟩) ?_)))
    refine wpAny_ite_true (by decide) (wpAny_bind (applied_back d1 le isS pl pu ps (wpAny_ite_false (decide_eq_false notAll) ?_)))
    have same := congrArg List.toArray (picks_back its d)
    show wpAny _ _ (Builtin.Tuple.tupleExact ((List.range (its.size - d)).filterMap fun (m : Nat) => its[((its.size : Int) - 1 + (m : Int) * (-1)).toNat]?).toArray >>= _) _ _ s
    rw [same]
    exact wpAny_bind (m := Builtin.Tuple.tupleExact _) (wpAny_newObj_type (wpAny_pure ⟨_, rfl, g⟩) room)
  exact wpAny_getItem_slot isT.typeIs (by decide) slot_tuple_getitem (wpAny_call_entry slot_tuple_getitem isT.typeIs entry_tuple_getitem (made h) (args_tuple_getitem _ _))
end
section
variable {X : Cx}
def tBack (K : PySem.W.Frag) (d : Nat) (te : TE) : TE := fun σ H Q => te σ H fun x H1 => ∃ a xs, x = .ref a ∧
  ((d = 0 ∧ SqL K H1 a xs ∧ ∀ p, H1 p = none → Q (.ref p) (upd H1 p (.lst xs.reverse))) ∨ (SqT K H1 a xs ∧ d ≤ xs.length ∧ NewT H1 Q (xs.drop d).reverse))
theorem vals_drop {xs : List V} {us : List Value} (r : Vals xs us) (d : Nat) : Vals (xs.drop d) (us.drop d) := r.drop d
theorem pe_back {e : Expr} {up : Option Expr} {te : TE} {tU : TO} {d k : Nat} {p1 p2 p3 pos : Pos} (d1 : d ≤ 1) (he : PE X e te) (hup : PO X up tU) (low : ∀ σ H (Q : Option Int → Hp → Prop), Q (downTo d) H → tU σ H Q) :
    PE X (.Subscript e (.Slice none up (some (.UnaryOp .USub (.Constant (.int 1) k p1) p2)) p3) pos) (tBack X.K d te) where
  run pins s σ H Q I h := by
    have minus : PO X (some (.UnaryOp .USub (.Constant (.int 1) k p1) p2)) (tPart (tUn (rU fun i => .int (-i)) (tC (.int 1)))) := po_some (pe_un un_neg pe_int)
    refine Subscript_ (wpAny_mono (he.run pins s σ H _ I h) ?_ fun _ _ z => z)
    rintro _ s1 ⟨_, H1, I1, r1, a, xs, rfl, q⟩
    cases r1
    refine wpAny_Slice (wpAny_mono (po_none.run pins s1 σ H1 (fun o H2 => o = none ∧ H2 = H1) I1 ⟨rfl, rfl⟩) ?_ fun _ _ z => z)
    rintro vl s2 ⟨_, _, I2, pl, rfl, rfl⟩
    refine wpAny_mono (hup.run pins s2 σ _ (fun o H3 => o = downTo d ∧ H3 = _) I2 (low _ _ _ ⟨rfl, rfl⟩)) ?_ fun _ _ z => z
    rintro vu s3 ⟨_, _, I3, pu, rfl, rfl⟩
    refine wpAny_mono (minus.run pins s3 σ _ (fun o H4 => o = some (-1) ∧ H4 = _) I3 ⟨1, rfl, -1, rfl, rfl, rfl⟩) ?_ fun _ _ z => z
    rintro vs ⟨hp, gs, dr, tk, os⟩ ⟨_, _, I4, ps, rfl, rfl⟩
    have I5 := I4.kept (t' := tk) (h' := hp.push { cls := .type "slice", data := .fields #[vl, vu, vs] }) fun _ _ z => Heap.get?_push_of_some _ z
    have isS := Heap.IsSliceOf.new hp vl vu vs
    have new {o : Obj} {b : Addr} {u : Obj} (z : (hp.push { cls := .type "slice", data := .fields #[vl, vu, vs] }).get? b = some u) : ((hp.push { cls := .type "slice", data := .fields #[vl, vu, vs] }).push o).get? b = some u := Heap.get?_push_of_some _ z
    have tail {id : String} {T : String} (ty : Shared.TypeIs ⟨hp.push { cls := .type "slice", data := .fields #[vl, vu, vs] }, gs, dr, tk, os⟩ (.ref a) T) (look : typeLookup (.type T) "__getitem__" = pure (some (.builtin id))) {G : Value → Shared → Prop}
        (g : wpAny (model X.prog X.w) X.A (getItem (.ref a) (.ref hp.objs.size)) G X.xe ⟨hp.push { cls := .type "slice", data := .fields #[vl, vu, vs] }, gs, dr, tk, os⟩) :
        wpAny (model X.prog X.w) X.A (subscriptTail e (.Slice none up (some (.UnaryOp .USub (.Constant (.int 1) k p1) p2)) p3) (.ref a) (.ref hp.objs.size)) G X.xe ⟨hp.push { cls := .type "slice", data := .fields #[vl, vu, vs] }, gs, dr, tk, os⟩ :=
      tail_any (ops := [.ref a, .ref hp.objs.size]) ty look g (by with_unfolding_all rfl)
    rcases q with ⟨rfl, isL, q⟩ | ⟨isT, le, q⟩
    · obtain ⟨its, r, at_a, fits⟩ := I5.list isL
      have len := r.length
      refine tail at_a.isList.typeIs PySem.slot_list_getitem.lookup (wpAny_getItem_list_slice at_a.isList isS pl pu ps (by decide) ?_ (by rw [List.size_toArray]; omega))
      rw [show downTo 0 = none from rfl, PySem.W.krv_pick]
      exact ⟨.ref _, _, I5.laid (t' := tk) (o := .lst xs.reverse) (fun _ _ => new) (Nat.le_refl _) ⟨by simpa using fits, _, 0, r.reverse, Heap.get?_push_size _ rfl⟩, rfl, q _ (I5.hok.fresh (Nat.le_refl _))⟩
    · obtain ⟨its, r, at_a, fits⟩ := I5.tuple isT
      have len := r.length
      refine tail at_a.typeIs PyProof.Rows.slot_tuple_getitem.lookup (item_back d1 (by rw [List.size_toArray]; omega) at_a isS pl pu ps (by rw [List.size_toArray]; omega) ?_)
      exact q.at (k := tk) I5 (by simp; omega) (vals_drop r d).reverse
def revD (x : PyData) (k : PyData → Prop) : Prop := match x with
  | .list ds => k (.list ds.reverse)
  | .tuple ds => k (.tuple ds.reverse)
  | _ => False
omit [Tb] in
@[simp ↓] theorem revD_l (ds : List PyData) (k : PyData → Prop) : revD (.list ds) k = k (.list ds.reverse) := rfl
omit [Tb] in
@[simp ↓] theorem revD_t (ds : List PyData) (k : PyData → Prop) : revD (.tuple ds) k = k (.tuple ds.reverse) := rfl
def wRevA (w : DE) : DE := fun δ R => w δ fun o δ1 => use o δ1 fun x => revD x fun z => R (.d z) δ1
omit [Tb] in
@[simp ↓] theorem wRevA_ap (w : DE) (δ : DS) (R : Opd → DS → Prop) : wRevA w δ R = (w δ fun o δ1 => use o δ1 fun x => revD x fun z => R (.d z) δ1) := rfl
theorem je_revA {e : Expr} {w : DE} {p1 p2 p3 pos : Pos} {k1} (h : JE X e w) : JE X (.Subscript e (.Slice none none (some (.UnaryOp .USub (.Constant (.int 1) k1 p1) p2)) p3) pos) (wRevA w) :=
  pe_le (pe_back (Nat.zero_le 1) h po_none fun _ _ _ q => q) fun pins s σ H Q I ⟨B, G, δ, R, rel, hw, k⟩ => ⟨B, G, δ, _, rel, hw, fun v H1 G1 o δ1 r1 s1 rel1 ok1 => by
    obtain ⟨d, q, bd⟩ := use_ok rel1 ok1 r1
    cases d with
    | list ds =>
      obtain ⟨a, ws, rfl, ha, ta⟩ := bor_lst rel1 bd
      refine ⟨a, ws, rfl, .inl ⟨rfl, SqL.of ha, fun p np => ?_⟩⟩
      obtain ⟨rel3, s3⟩ := rel1.laid (o := .lst ws.reverse) np
      exact k _ _ _ _ _ q (s1.trans s3) rel3 (Dn.lst upd_same (ta.rev.mono s3))
    | tuple ds =>
      obtain ⟨a, ws, rfl, ha, ta⟩ := bor_tup bd
      refine ⟨a, ws, rfl, .inr ⟨sqT_mono rel1.sg ha, Nat.zero_le _, fun p o hd np => ?_⟩⟩
      obtain ⟨rel3, s3, at3⟩ := rel1.laidT (xs := ws.reverse) np hd
      exact k _ _ _ _ _ q (s1.trans s3) rel3 (Dn.tup at3 (ta.rev.mono s3))
    | _ => exact False.elim q⟩
def pAddB : P2 := fun x y R => match x, y with
  | .bool b, .int j => R (.int ((if b = true then 1 else 0) + j))
  | x, y => pAdd x y R
def pSubB : P2 := fun x y R => match x, y with
  | .bool b, .int j => R (.int ((if b = true then 1 else 0) - j))
  | x, y => pSub x y R
theorem d_addB : OpD X (binaryOp .Add) pAddB := by
  intro pins s σ H x y v u Q I rx ry ⟨B, G, δ, σ', dx, dy, R, rel, bx, by', q, k⟩
  by_cases c : ∃ b j, dx = .bool b ∧ dy = .int j
  · obtain ⟨b, j, rfl, rfl⟩ := c
    obtain rfl := bor_bool bx
    obtain rfl := bor_int by'
    cases rx
    obtain ⟨t, rfl⟩ := ry
    exact IntBool.add_bool_int ⟨.int _, H, I.tok _, ⟨_, rfl⟩, k _ H G _ q (Same.refl _) rel (Dn.int _)⟩
  · refine d_add pins s σ H x y v u Q I rx ry ⟨B, G, δ, σ', dx, dy, R, rel, bx, by', ?_, k⟩
    unfold pAddB at q
    split at q
    · exact absurd ⟨_, _, rfl, rfl⟩ c
    · exact q
theorem d_subB : OpD X (binaryOp .Sub) pSubB := by
  intro pins s σ H x y v u Q I rx ry ⟨B, G, δ, σ', dx, dy, R, rel, bx, by', q, k⟩
  by_cases c : ∃ b j, dx = .bool b ∧ dy = .int j
  · obtain ⟨b, j, rfl, rfl⟩ := c
    obtain rfl := bor_bool bx
    obtain rfl := bor_int by'
    cases rx
    obtain ⟨t, rfl⟩ := ry
    exact IntBool.sub_bool_int ⟨.int _, H, I.tok _, ⟨_, rfl⟩, k _ H G _ q (Same.refl _) rel (Dn.int _)⟩
  · refine d_sub pins s σ H x y v u Q I rx ry ⟨B, G, δ, σ', dx, dy, R, rel, bx, by', ?_, k⟩
    unfold pSubB at q
    split at q
    · exact absurd ⟨_, _, rfl, rfl⟩ c
    · exact q
omit [Tb] in
@[simp ↓] theorem pAddB_bi (b : Bool) (j : Int) (R : PyData → Prop) : pAddB (.bool b) (.int j) R = R (.int ((if b = true then 1 else 0) + j)) := rfl
omit [Tb] in
@[simp ↓] theorem pAddB_ii (i : Int) (j : Int) (R : PyData → Prop) : pAddB (.int i) (.int j) R = (R (.int (i + j))) := rfl
omit [Tb] in
@[simp ↓] theorem pAddB_ss (a : Str) (b : Str) (R : PyData → Prop) : pAddB (.str a) (.str b) R = (a.length + b.length ≤ 1000000 ∧ R (.str (a ++ b))) := rfl
omit [Tb] in
@[simp ↓] theorem pAddB_tt (xs : List PyData) (ys : List PyData) (R : PyData → Prop) : pAddB (.tuple xs) (.tuple ys) R = (xs.length + ys.length ≤ 1000000 ∧ R (.tuple (xs ++ ys))) := rfl
omit [Tb] in
@[simp ↓] theorem pAddB_ll (xs : List PyData) (ys : List PyData) (R : PyData → Prop) : pAddB (.list xs) (.list ys) R = (xs.length + ys.length ≤ 1000000 ∧ R (.list (xs ++ ys))) := rfl
omit [Tb] in
@[simp ↓] theorem pSubB_bi (b : Bool) (j : Int) (R : PyData → Prop) : pSubB (.bool b) (.int j) R = R (.int ((if b = true then 1 else 0) - j)) := rfl
omit [Tb] in
@[simp ↓] theorem pSubB_ii (i : Int) (j : Int) (R : PyData → Prop) : pSubB (.int i) (.int j) R = (R (.int (i - j))) := rfl
end
end DL
namespace DL
open PySem PySem.Spec PyProof.Rows L2
variable [Tb]
def pStrB : PN := one fun x R => match x with
  | .int i => i.natAbs.log2 < 1920 ∧ R (.str (toString i))
  | .bool b => R (.str (if b then ("True" : Str) else ("False" : Str)))
  | .str z => R (.str z)
  | _ => False
section
variable {X : Cx}
omit [Tb] in
@[simp ↓] theorem pStrB_i (i : Int) (R : PyData → Prop) : pStrB [.int i] R = (i.natAbs.log2 < 1920 ∧ R (.str (toString i))) := rfl
omit [Tb] in
@[simp ↓] theorem pStrB_b (b : Bool) (R : PyData → Prop) : pStrB [.bool b] R = R (.str (if b then ("True" : Str) else ("False" : Str))) := rfl
omit [Tb] in
@[simp ↓] theorem pStrB_s (z : Str) (R : PyData → Prop) : pStrB [.str z] R = R (.str z) := rfl
end
section
variable {P : Program} {w : World} {K : PySem.W.Frag} {mg : Str → Option Value} {base : Heap} {CX : CXT} {f : Addr} {fd : FuncData} {ps : List Str} {k : Nat}
end
end DL
set_option Elab.async false
set_option linter.all false
set_option maxRecDepth 100000
set_option maxHeartbeats 4000000
namespace DL
open PySem PySem.Spec PyProof.Rows L2
variable [Tb]
section
omit [Tb]
mutual
theorem noO_alike : ∀ d : PyData, W.alike d d = true → noO d = true
  | .none, _ => rfl
  | .bool _, _ => rfl
  | .int _, _ => rfl
  | .str _, _ => rfl
  | .list xs, h => by rw [noO]; exact noOL_alike xs (by simpa [W.alike] using h)
  | .tuple xs, h => by rw [noO]; exact noOL_alike xs (by simpa [W.alike] using h)
  | .dict _, h => by simp [W.alike] at h
theorem noOL_alike : ∀ ds : List PyData, W.alikeAll ds ds = true → noOL ds = true
  | [], _ => rfl
  | d :: ds, h => by
    rw [W.alikeAll, Bool.and_eq_true] at h
    rw [noOL, noO_alike d h.1, noOL_alike ds h.2]
    rfl
end
end
abbrev leD : PyData → PyData → Bool := W.dataLe false id
def sortD (ds : List PyData) : List PyData := ds.mergeSort leD
def pSorted : PN := one fun x R => match x with
  | .list ds => W.AllAlike ds ∧ W.Sortable ds ∧ ds.length ≤ 1000000 ∧ (∀ d ∈ ds, d.depth ≤ 50) ∧ R (.list (sortD ds))
  | _ => False
section
variable {X : Cx}
end
omit [Tb] in
@[simp ↓] theorem pSorted_l (ds : List PyData) (R : PyData → Prop) : pSorted [.list ds] R = (W.AllAlike ds ∧ W.Sortable ds ∧ ds.length ≤ 1000000 ∧ (∀ d ∈ ds, d.depth ≤ 50) ∧ R (.list (sortD ds))) := rfl
end DL
set_option Elab.async false
set_option linter.all false
set_option maxRecDepth 100000
set_option maxHeartbeats 4000000
namespace DL
open PySem PySem.Spec PyProof.Rows L2
variable [Tb]
def pMaxS : PN := one fun x R => match x with
  | .list ds => ∃ ns : List Int, ds = ns.map PyData.int ∧ 0 < ns.length ∧ ∀ m, m ∈ ns → (∀ y ∈ ns, y ≤ m) → R (.int m)
  | .tuple ds => ∃ ns : List Int, ds = ns.map PyData.int ∧ 0 < ns.length ∧ ∀ m, m ∈ ns → (∀ y ∈ ns, y ≤ m) → R (.int m)
  | _ => False
def pMinS : PN := one fun x R => match x with
  | .list ds => ∃ ns : List Int, ds = ns.map PyData.int ∧ 0 < ns.length ∧ ∀ m, m ∈ ns → (∀ y ∈ ns, m ≤ y) → R (.int m)
  | .tuple ds => ∃ ns : List Int, ds = ns.map PyData.int ∧ 0 < ns.length ∧ ∀ m, m ∈ ns → (∀ y ∈ ns, m ≤ y) → R (.int m)
  | _ => False
section
variable {X : Cx}
end
omit [Tb] in
@[simp ↓] theorem pMaxS_l (ds : List PyData) (R : PyData → Prop) : pMaxS [.list ds] R = onIs ds (fun ns => 0 < ns.length ∧ ∀ m, m ∈ ns → (∀ y ∈ ns, y ≤ m) → R (.int m)) .mk := rfl
omit [Tb] in
@[simp ↓] theorem pMinS_l (ds : List PyData) (R : PyData → Prop) : pMinS [.list ds] R = onIs ds (fun ns => 0 < ns.length ∧ ∀ m, m ∈ ns → (∀ y ∈ ns, m ≤ y) → R (.int m)) .mk := rfl
omit [Tb] in
@[simp ↓] theorem pMaxS_t (ds : List PyData) (R : PyData → Prop) : pMaxS [.tuple ds] R = onIs ds (fun ns => 0 < ns.length ∧ ∀ m, m ∈ ns → (∀ y ∈ ns, y ≤ m) → R (.int m)) .mk := rfl
omit [Tb] in
@[simp ↓] theorem pMinS_t (ds : List PyData) (R : PyData → Prop) : pMinS [.tuple ds] R = onIs ds (fun ns => 0 < ns.length ∧ ∀ m, m ∈ ns → (∀ y ∈ ns, m ≤ y) → R (.int m)) .mk := rfl
end DL
set_option Elab.async false
set_option linter.all false
set_option maxRecDepth 100000
set_option maxHeartbeats 4000000
namespace DL
open PySem PySem.Spec PyProof.Rows L2
variable [Tb]
section
variable {X : Cx} {pos : Pos} {i : Nat}
end
section
variable {P : Program} {w : World} {K : PySem.W.Frag} {mg : Str → Option Value} {base : Heap}
end
def wLstRg1 (w : DE) : DL := fun δ R => w δ fun o δ1 => use o δ1 fun x => asI x (fun n => -1000000 ≤ n ∧ n ≤ 1000000 ∧ R (nums 0 n.toNat) δ1) .mk
def wLstRg2 (w u : DE) : DL := fun δ R => w δ fun o δ1 => u δ1 fun o2 δ2 => use o δ2 fun x => use o2 δ2 fun y => asI x (fun m => asI y (fun n => (-1000000 ≤ m ∧ m ≤ 1000000 ∧ -1000000 ≤ n ∧ n ≤ 1000000) ∧ R (nums m (n - m).toNat) δ2) .mk) .mk
omit [Tb] in
@[simp ↓] theorem wLstRg1_ap (w : DE) (δ : DS) (R : List PyData → DS → Prop) : wLstRg1 w δ R = (w δ fun o δ1 => use o δ1 fun x => asI x (fun n => -1000000 ≤ n ∧ n ≤ 1000000 ∧ R (nums 0 n.toNat) δ1) .mk) := rfl
omit [Tb] in
@[simp ↓] theorem wLstRg2_ap (w u : DE) (δ : DS) (R : List PyData → DS → Prop) : wLstRg2 w u δ R = (w δ fun o δ1 => u δ1 fun o2 δ2 => use o δ2 fun x => use o2 δ2 fun y => asI x (fun m => asI y (fun n => (-1000000 ≤ m ∧ m ≤ 1000000 ∧ -1000000 ≤ n ∧ n ≤ 1000000) ∧ R (nums m (n - m).toNat) δ2) .mk) .mk) := rfl
section
variable {X : Cx} {pos : Pos}
def wPopA (i : Nat) (w : DE) : DE := fun δ R => isOl δ i ∧ w δ fun o δ1 => use o δ1 fun z => asI z (fun j => olC δ1[i]? (fun a xs => 0 ≤ j ∧ j < xs.length ∧ xs.length ≤ 1000000 ∧ onS xs[j.toNat]? (fun y => R (.d y) (δ1.set i (.ol a (xs.eraseIdx j.toNat)))) .mk) .mk) .mk
omit [Tb] in
@[simp ↓] theorem wPopA_ap (i : Nat) (w : DE) (δ : DS) (R : Opd → DS → Prop) : wPopA i w δ R = (isOl δ i ∧ w δ fun o δ1 => use o δ1 fun z => asI z (fun j => olC δ1[i]? (fun a xs => 0 ≤ j ∧ j < xs.length ∧ xs.length ≤ 1000000 ∧ onS xs[j.toNat]? (fun y => R (.d y) (δ1.set i (.ol a (xs.eraseIdx j.toNat)))) .mk) .mk) .mk) := rfl
end
def lsC (x : PyData) (k : List PyData → Prop) (_u : Stop k) : Prop := match x with
  | .list xs => k xs
  | _ => False
omit [Tb] in
@[simp ↓] theorem lsC_l (xs : List PyData) (k : List PyData → Prop) (u : Stop k) : lsC (.list xs) k u = k xs := rfl
def ixOf (ds : List PyData) (y : PyData) : Option Nat := ds.findIdx? fun z => PyData.eqv z y
def wIndex (w u : DE) : DE := fun δ R => w δ fun o δ1 => use o δ1 fun x => lsC x (fun _ => u δ1 fun o2 δ2 => use o δ2 fun x2 => use o2 δ2 fun y => lsC x2 (fun ds => SeqAt.shaped (.list ds) = true ∧ SeqAt.shaped y = true ∧ onS (ixOf ds y) (fun j => R (.d (.int (j : Nat))) δ2) .mk) .mk) .mk
omit [Tb] in
@[simp ↓] theorem wIndex_ap (w u : DE) (δ : DS) (R : Opd → DS → Prop) : wIndex w u δ R = (w δ fun o δ1 => use o δ1 fun x => lsC x (fun _ => u δ1 fun o2 δ2 => use o δ2 fun x2 => use o2 δ2 fun y => lsC x2 (fun ds => SeqAt.shaped (.list ds) = true ∧ SeqAt.shaped y = true ∧ onS (ixOf ds y) (fun j => R (.d (.int (j : Nat))) δ2) .mk) .mk) .mk) := rfl
section
variable {X : Cx} {pos : Pos}
end
end DL
set_option Elab.async false
set_option linter.all false
set_option maxRecDepth 100000
set_option maxHeartbeats 4000000
namespace DL
open PySem PySem.Spec PyProof.Rows L2
variable [Tb]
variable {g : DTG} {t : DT} {e : DE} {vs : List Nat} {xs : List PyData} {δ : DS}
end DL
set_option Elab.async false
set_option linter.all false
set_option maxRecDepth 100000
set_option maxHeartbeats 4000000
namespace DL
open PySem PySem.Spec PyProof.Rows L2
variable [Tb]
mutual
theorem eq_of_eqv : ∀ (x y : PyData), W.alike x y = true → PyData.eqv x y = true → x = y
  | .none, y, h, e => by cases y <;> simp [W.alike] at h ⊢
  | .bool a, y, h, e => by cases y <;> simp [W.alike, PyData.eqv] at h e ⊢; exact e
  | .int a, y, h, e => by cases y <;> simp [W.alike, PyData.eqv] at h e ⊢; exact e
  | .str a, y, h, e => by cases y <;> simp [W.alike, PyData.eqv] at h e ⊢; exact e
  | .list xs, y, h, e => by
    cases y with
    | list ys => rw [eq_of_eqvAll xs ys (by simpa [W.alike] using h) (by simpa [PyData.eqv] using e)]
    | _ => simp [W.alike] at h
  | .tuple xs, y, h, e => by
    cases y with
    | tuple ys => rw [eq_of_eqvAll xs ys (by simpa [W.alike] using h) (by simpa [PyData.eqv] using e)]
    | _ => simp [W.alike] at h
  | .dict xs, y, h, e => by cases y <;> simp [W.alike] at h
theorem eq_of_eqvAll : ∀ (xs ys : List PyData), W.alikeAll xs ys = true → PyData.eqvAll xs ys = true → xs = ys
  | [], ys, h, e => by cases ys <;> simp [PyData.eqvAll] at e ⊢
  | x :: xs, ys, h, e => by
    cases ys with
    | nil => simp [PyData.eqvAll] at e
    | cons y ys =>
      rw [W.alikeAll, Bool.and_eq_true] at h
      rw [PyData.eqvAll, Bool.and_eq_true] at e
      rw [eq_of_eqv x y h.1 e.1, eq_of_eqvAll xs ys h.2 e.2]
end
end DL
set_option Elab.async false
set_option linter.all false
set_option maxRecDepth 100000
set_option maxHeartbeats 4000000
namespace TW
open PySem PySem.Spec PyProof.Rows L2 DL

def BIG : Int := 2 ^ 4000
theorem BIG_nat : BIG.natAbs = 2 ^ 4000 := by decide +kernel
theorem BIG_ge : 10 ^ 60 ≤ BIG := by decide +kernel
theorem log_big {i : Int} (h : i.natAbs ≤ BIG.natAbs) : i.natAbs.log2 ≤ 4000 := by
  rw [BIG_nat] at h
  by_cases h0 : i.natAbs = 0
  · rw [h0]; decide
  · have : i.natAbs.log2 < 4001 := (Nat.log2_lt h0).mpr (Nat.lt_of_le_of_lt h (Nat.pow_lt_pow_right (by decide) (by decide)))
    omega
theorem abs_big {i : Int} (h0 : -BIG ≤ i) (h1 : i ≤ BIG) : i.natAbs ≤ BIG.natAbs := by
  have := BIG_ge
  omega
theorem mul_big {i j : Int} (h0 : -BIG ≤ i) (h1 : i ≤ BIG) (h2 : -BIG ≤ j) (h3 : j ≤ BIG) : CMul i j ∨ CMulW i j := by
  refine .inr ?_
  have a := log_big (abs_big h0 h1)
  have b := log_big (abs_big h2 h3)
  unfold CMulW
  omega
theorem div_big {j : Int} (h0 : 0 < j) (h1 : j ≤ BIG) : 0 < j ∧ j.natAbs.log2 < 9000 := by
  have b := log_big (abs_big (i := j) (by omega) h1)
  exact ⟨h0, by omega⟩
def Pos (x : Int) : Prop := 1 ≤ x ∧ x ≤ BIG
theorem Pos.div {j : Int} (h : Pos j) : 0 < j ∧ j.natAbs.log2 < 9000 := div_big (by have := h.1; omega) h.2
theorem Pos.of {x : Int} (h : 1 ≤ x) (h1 : x ≤ 10 ^ 60) : Pos x := ⟨h, by have := BIG_ge; omega⟩

def gcdI (a b : Int) : Int := (Int.gcd a b : Nat)
theorem gcd_step {x y : Int} : gcdI y (x % y) = gcdI x y := by
  unfold gcdI
  congr 1
  rw [Int.gcd_comm x y]
  have : x % y = x - y * (x / y) := by have := Int.mul_ediv_add_emod x y; omega
  rw [this, Int.gcd_comm, Int.mul_comm, Int.gcd_sub_mul_right_left, Int.gcd_comm]
theorem gcd_le {a b : Int} (ha : 1 ≤ a) : 1 ≤ gcdI a b ∧ gcdI a b ≤ a := by
  have h1 : (Int.gcd a b : Int) ∣ a := Int.gcd_dvd_left ..
  have h0 : 0 < Int.gcd a b := Int.gcd_pos_of_ne_zero_left _ (by omega)
  have := Int.le_of_dvd (by omega) h1
  unfold gcdI
  omega
theorem gcd_dvd_l (a b : Int) : gcdI a b ∣ a := Int.gcd_dvd_left ..
theorem gcd_dvd_r (a b : Int) : gcdI a b ∣ b := Int.gcd_dvd_right ..
theorem gcdI_comm (a b : Int) : gcdI a b = gcdI b a := by unfold gcdI; rw [Int.gcd_comm]
def invGo : Nat → Int → Int → Int → Int → Int
  | 0, _, _, _, later => later
  | f + 1, left, right, now, later => if left > 0 then invGo f (right - right / left * left) left (later - right / left * now) now else later
def invF (a b : Int) : Int := invGo (a % b).toNat.succ (a % b) b 1 0 % b
theorem sub_div (r l : Int) : r - r / l * l = r % l := by have := Int.mul_ediv_add_emod r l; rw [Int.mul_comm l] at this; omega
theorem inv_go {a b : Int} : ∀ (f : Nat) (l r n t : Int), 0 ≤ l → 0 ≤ r → l.toNat < f → b ∣ l - n * a → b ∣ r - t * a → gcdI l r = 1 → b ∣ 1 - invGo f l r n t * a
  | 0, l, r, n, t, _, _, h, _, _, _ => by omega
  | f + 1, l, r, n, t, h0, h1, hf, d1, d2, hg => by
    unfold invGo
    split
    · rename_i hl
      refine inv_go f _ _ _ _ ?_ h0 ?_ ?_ d1 ?_
      · rw [sub_div]; exact Int.emod_nonneg _ (by omega)
      · rw [sub_div]
        have := Int.emod_lt_of_pos r hl
        have := Int.emod_nonneg r (show l ≠ 0 by omega)
        omega
      · have e : r - r / l * l - (t - r / l * n) * a = (r - t * a) - r / l * (l - n * a) := by
          generalize r / l = q
          rw [Int.sub_mul, Int.mul_sub, Int.mul_assoc]; omega
        rw [e]
        exact Int.dvd_sub d2 (Int.dvd_mul_of_dvd_right d1)
      · rw [sub_div, gcdI_comm, gcd_step, gcdI_comm, hg]
    · rename_i hl
      have : l = 0 := by omega
      subst this
      have : r = 1 := by unfold gcdI at hg; simp at hg; omega
      subst this
      exact d2
theorem inv_ok {a b : Int} (hb : 1 ≤ b) (hg : gcdI a b = 1) : 0 ≤ invF a b ∧ invF a b < b ∧ b ∣ 1 - invF a b * a := by
  unfold invF
  refine ⟨Int.emod_nonneg _ (by omega), Int.emod_lt_of_pos _ (by omega), ?_⟩
  have h0 : 0 ≤ a % b := Int.emod_nonneg _ (by omega)
  have h := inv_go (a := a) (b := b) (a % b).toNat.succ (a % b) b 1 0 h0 (by omega) (by omega) ?_ ?_ ?_
  · generalize invGo _ _ _ _ _ = v at h
    have e : 1 - v % b * a = (1 - v * a) + b * (v / b * a) := by
      have := Int.mul_ediv_add_emod v b
      have e2 : v * a = (b * (v / b) + v % b) * a := by rw [this]
      rw [Int.add_mul, Int.mul_assoc] at e2
      omega
    rw [e]
    exact Int.dvd_add h (Int.dvd_mul_right ..)
  · rw [Int.one_mul]
    have : a % b - a = b * (-(a / b)) := by
      have := Int.mul_ediv_add_emod a b
      rw [Int.mul_neg]; omega
    rw [this]; exact Int.dvd_mul_right ..
  · simp
  · rw [gcdI_comm, gcd_step, hg]
def timesF (a b s : Int) : Option Int := if s % gcdI a b ≠ 0 then none else some (s / gcdI a b * invF (a / gcdI a b) (b / gcdI a b) % (b / gcdI a b))
theorem gcd_parts {a b : Int} (ha : 1 ≤ a) : gcdI (a / gcdI a b) (b / gcdI a b) = 1 := by
  have := gcd_le (b := b) ha
  unfold gcdI at this ⊢
  have h := Int.gcd_ediv_gcd_ediv_gcd (i := a) (j := b) (by omega)
  omega
theorem mul_cancel_dvd {g x y : Int} (hg : g ≠ 0) (h : g * x ∣ g * y) : x ∣ y := by
  obtain ⟨k, hk⟩ := h
  exact ⟨k, Int.eq_of_mul_eq_mul_left hg (by rw [hk, Int.mul_assoc])⟩
theorem dvd_of_coprime {a b c : Int} (hb : 1 ≤ b) (hg : gcdI a b = 1) (h : b ∣ a * c) : b ∣ c := by
  obtain ⟨_, _, d⟩ := inv_ok hb hg
  have e : c = (1 - invF a b * a) * c + invF a b * (a * c) := by
    rw [Int.sub_mul, Int.one_mul, Int.mul_assoc]; omega
  rw [e]
  exact Int.dvd_add (Int.dvd_mul_of_dvd_left d) (Int.dvd_mul_of_dvd_right h)
theorem times_none {a b s : Int} : timesF a b s = none ↔ ¬ gcdI a b ∣ s := by
  unfold timesF
  rw [Int.dvd_iff_emod_eq_zero]
  by_cases h : s % gcdI a b = 0 <;> simp [h]
theorem times_some {a b s t : Int} (ha : 1 ≤ a) (hb : 1 ≤ b) (h : timesF a b s = some t) : gcdI a b ∣ s ∧ 0 ≤ t ∧ t < b / gcdI a b ∧ b ∣ s - a * t := by
  unfold timesF at h
  split at h
  · cases h
  rename_i hs
  have hs : gcdI a b ∣ s := Int.dvd_of_emod_eq_zero (by simpa using hs)
  have h := Option.some.inj h
  obtain ⟨g0, g1⟩ := gcd_le (b := b) ha
  have gp := gcd_parts (b := b) ha
  obtain ⟨a', ea⟩ := gcd_dvd_l a b
  obtain ⟨b', eb⟩ := gcd_dvd_r a b
  obtain ⟨s', es⟩ := hs
  generalize gcdI a b = g at *
  have qa : a / g = a' := by rw [ea]; exact Int.mul_ediv_cancel_left _ (by omega)
  have qb : b / g = b' := by rw [eb]; exact Int.mul_ediv_cancel_left _ (by omega)
  have qs : s / g = s' := by rw [es]; exact Int.mul_ediv_cancel_left _ (by omega)
  rw [qa, qb] at gp
  rw [qa, qb, qs] at h
  have hb' : 1 ≤ b' := by
    have : 0 < b' := Int.pos_of_mul_pos_right (a := g) (b := b') (by rw [← eb]; omega) (by omega)
    omega
  obtain ⟨i0, i1, di⟩ := inv_ok hb' gp
  rw [qb]
  refine ⟨⟨s', es⟩, by rw [← h]; exact Int.emod_nonneg _ (by omega), by rw [← h]; exact Int.emod_lt_of_pos _ (by omega), ?_⟩
  rw [ea, eb, es, ← h]
  have e : g * s' - g * a' * (s' * invF a' b' % b') = g * ((1 - invF a' b' * a') * s' + b' * (a' * (s' * invF a' b' / b'))) := by
    have := Int.mul_ediv_add_emod (s' * invF a' b') b'
    generalize s' * invF a' b' / b' = q at *
    generalize s' * invF a' b' % b' = r at *
    have : r = s' * invF a' b' - b' * q := by omega
    rw [this]
    generalize invF a' b' = v
    simp only [Int.mul_sub, Int.mul_add, Int.sub_mul, Int.one_mul, Int.mul_assoc]
    have x1 : g * (a' * (s' * v)) = g * (v * (a' * s')) := by
      rw [Int.mul_comm s' v, Int.mul_left_comm a' v s']
    have x2 : g * (a' * (b' * q)) = g * (b' * (a' * q)) := by rw [Int.mul_left_comm a' b' q]
    omega
  rw [e]
  exact Int.mul_dvd_mul_left g (Int.dvd_add (Int.dvd_mul_of_dvd_left di) (Int.dvd_mul_right ..))
theorem times_least {a b s t x : Int} (ha : 1 ≤ a) (hb : 1 ≤ b) (h : timesF a b s = some t) (h0 : 0 ≤ x) (hx : b ∣ s - a * x) : t ≤ x ∧ (b / gcdI a b) ∣ x - t := by
  obtain ⟨hs, t0, t1, dt⟩ := times_some ha hb h
  obtain ⟨g0, g1⟩ := gcd_le (b := b) ha
  have gp := gcd_parts (b := b) ha
  obtain ⟨a', ea⟩ := gcd_dvd_l a b
  obtain ⟨b', eb⟩ := gcd_dvd_r a b
  generalize gcdI a b = g at *
  have qa : a / g = a' := by rw [ea]; exact Int.mul_ediv_cancel_left _ (by omega)
  have qb : b / g = b' := by rw [eb]; exact Int.mul_ediv_cancel_left _ (by omega)
  rw [qa, qb] at gp
  rw [qb] at t1 ⊢
  have hb' : 1 ≤ b' := by omega
  have d : b ∣ a * (x - t) := by
    have := Int.dvd_sub dt hx
    have e : s - a * t - (s - a * x) = a * (x - t) := by rw [Int.mul_sub]; omega
    rwa [e] at this
  rw [ea, eb, Int.mul_assoc] at d
  have d' := dvd_of_coprime hb' gp (mul_cancel_dvd (by omega) d)
  refine ⟨?_, d'⟩
  obtain ⟨k, hk⟩ := d'
  by_cases c : t ≤ x
  · exact c
  · exfalso
    have hk0 : k < 0 := by
      by_cases q : 0 ≤ k
      · have := Int.mul_nonneg (show 0 ≤ b' by omega) q
        omega
      · omega
    have : b' * k ≤ b' * (-1) := Int.mul_le_mul_of_nonneg_left (by omega) (by omega)
    omega
def isSum (a b s : Int) : Bool := match timesF a b s with
  | some t => decide (a * t ≤ s)
  | none => false
theorem isSum_iff {a b s : Int} (ha : 1 ≤ a) (hb : 1 ≤ b) : isSum a b s = true ↔ ∃ x y : Int, 0 ≤ x ∧ 0 ≤ y ∧ a * x + b * y = s := by
  unfold isSum
  cases h : timesF a b s with
  | none =>
    rw [times_none] at h
    simp only [Bool.false_eq_true, false_iff]
    rintro ⟨x, y, _, _, rfl⟩
    exact h (Int.dvd_add (Int.dvd_mul_of_dvd_left (gcd_dvd_l ..)) (Int.dvd_mul_of_dvd_left (gcd_dvd_r ..)))
  | some t =>
    obtain ⟨hs, t0, t1, dt⟩ := times_some ha hb h
    simp only [decide_eq_true_eq]
    constructor
    · intro hle
      obtain ⟨y, hy⟩ := dt
      refine ⟨t, y, t0, ?_, by omega⟩
      by_cases q : 0 ≤ y
      · exact q
      · have : b * y ≤ b * (-1) := Int.mul_le_mul_of_nonneg_left (by omega) (by omega)
        omega
    · rintro ⟨x, y, hx, hy, rfl⟩
      have q := (times_least ha hb h hx ⟨y, by omega⟩).1
      have := Int.mul_le_mul_of_nonneg_left q (show 0 ≤ a by omega)
      have := Int.mul_nonneg (show 0 ≤ b by omega) hy
      omega
end TW
set_option Elab.async false
set_option linter.all false
set_option maxRecDepth 100000
set_option maxHeartbeats 4000000
namespace TW
open PySem PySem.Spec PyProof.Rows L2 DL

mutual
def wgt : PyData → Nat
  | .none => 8
  | .bool _ => 8
  | .int i => i.natAbs.log2 + 9
  | .str x => (PyData.shown (.str x)).length
  | .list xs => wgtL xs + 4
  | .tuple xs => wgtL xs + 4
  | .dict _ => 4
def wgtL : List PyData → Nat
  | [] => 0
  | x :: xs => wgt x + 2 + wgtL xs
end
mutual
def okd (z : Bool) : PyData → Bool
  | .none => true
  | .bool _ => true
  | .int i => decide (i.natAbs.log2 < (if z = true then 1900 else 1800))
  | .str x => PyData.strOk x
  | .list xs => okdL z xs
  | .tuple xs => okdL z xs
  | .dict kvs => z && kvs.isEmpty
def okdL (z : Bool) : List PyData → Bool
  | [] => true
  | x :: xs => okd z x && okdL z xs
end
structure Shp (z : Bool) (n w : Nat) (d : PyData) : Prop where
  ok : okd z d = true
  dp : d.depth ≤ n
  wt : wgt d ≤ w
structure ShpL (z : Bool) (n w : Nat) (xs : List PyData) : Prop where
  ok : okdL z xs = true
  dp : PyData.depthAll xs ≤ n
  wt : wgtL xs ≤ w
theorem Shp.mono {z : Bool} {n m w v : Nat} {d : PyData} (h : Shp z n w d) (hn : n ≤ m) (hw : w ≤ v) : Shp z m v d := ⟨h.ok, Nat.le_trans h.dp hn, Nat.le_trans h.wt hw⟩
theorem ShpL.nil {z : Bool} {n : Nat} : ShpL z n 0 [] := ⟨by simp [okdL], by simp [PyData.depthAll], by simp [wgtL]⟩
theorem ShpL.cons {z : Bool} {n w v : Nat} {x : PyData} {xs : List PyData} (h : Shp z n w x) (t : ShpL z n v xs) : ShpL z n (w + 2 + v) (x :: xs) :=
  ⟨by simp [okdL, h.ok, t.ok], by have := h.dp; have := t.dp; simp [PyData.depthAll]; omega, by have := h.wt; have := t.wt; simp only [wgtL]; omega⟩
theorem ShpL.of {z : Bool} {n w : Nat} : ∀ {xs : List PyData}, (∀ x ∈ xs, Shp z n w x) → ShpL z n (xs.length * (w + 2)) xs
  | [], _ => by simpa using ShpL.nil
  | x :: xs, h => by
    have := ShpL.cons (h x (List.mem_cons_self ..)) (ShpL.of fun y hy => h y (List.mem_cons_of_mem _ hy))
    have e : w + 2 + xs.length * (w + 2) = (x :: xs).length * (w + 2) := by rw [List.length_cons, Nat.succ_mul]; omega
    rw [e] at this; exact this
theorem ShpL.map {α : Type} {z : Bool} {n w k : Nat} {as : List α} {f : α → PyData} (h : ∀ a ∈ as, Shp z n w (f a)) (hk : as.length ≤ k) : ShpL z n (k * (w + 2)) (as.map f) := by
  have := ShpL.of (xs := as.map f) (z := z) (n := n) (w := w) fun x hx => by
    obtain ⟨a, ha, rfl⟩ := List.mem_map.mp hx
    exact h a ha
  rw [List.length_map] at this
  exact ⟨this.ok, this.dp, Nat.le_trans this.wt (Nat.mul_le_mul_right _ hk)⟩
theorem ShpL.mono {z : Bool} {n m w v : Nat} {d : List PyData} (h : ShpL z n w d) (hn : n ≤ m) (hw : w ≤ v) : ShpL z m v d := ⟨h.ok, Nat.le_trans h.dp hn, Nat.le_trans h.wt hw⟩
theorem okdL_app {z : Bool} : ∀ (xs ys : List PyData), okdL z (xs ++ ys) = (okdL z xs && okdL z ys)
  | [], ys => by simp [okdL]
  | x :: xs, ys => by simp [okdL, okdL_app xs ys, Bool.and_assoc]
theorem depthAll_app : ∀ (xs ys : List PyData), PyData.depthAll (xs ++ ys) = max (PyData.depthAll xs) (PyData.depthAll ys)
  | [], ys => by simp [PyData.depthAll]
  | x :: xs, ys => by simp only [List.cons_append, PyData.depthAll, depthAll_app xs ys]; omega
theorem wgtL_app : ∀ (xs ys : List PyData), wgtL (xs ++ ys) = wgtL xs + wgtL ys
  | [], ys => by simp [wgtL]
  | x :: xs, ys => by simp [wgtL, wgtL_app xs ys]; omega
theorem ShpL.app {z : Bool} {n w v : Nat} {xs ys : List PyData} (h : ShpL z n w xs) (t : ShpL z n v ys) : ShpL z n (w + v) (xs ++ ys) :=
  ⟨by rw [okdL_app, h.ok, t.ok]; rfl, by rw [depthAll_app]; have := h.dp; have := t.dp; omega, by rw [wgtL_app]; have := h.wt; have := t.wt; omega⟩
theorem Shp.list {z : Bool} {n w : Nat} {xs : List PyData} (h : ShpL z n w xs) : Shp z (n + 1) (w + 4) (.list xs) :=
  ⟨by simp only [okd]; exact h.ok, by simp only [PyData.depth]; have := h.dp; omega, by simp only [wgt]; have := h.wt; omega⟩
theorem Shp.tuple {z : Bool} {n w : Nat} {xs : List PyData} (h : ShpL z n w xs) : Shp z (n + 1) (w + 4) (.tuple xs) :=
  ⟨by simp only [okd]; exact h.ok, by simp only [PyData.depth]; have := h.dp; omega, by simp only [wgt]; have := h.wt; omega⟩
theorem Shp.none {z : Bool} {n : Nat} : Shp z n 8 .none := ⟨by simp [okd], by simp [PyData.depth], by simp [wgt]⟩
theorem Shp.bool {z : Bool} {n : Nat} {b : Bool} : Shp z n 8 (.bool b) := ⟨by simp [okd], by simp [PyData.depth], by simp [wgt]⟩
theorem Shp.intB {z : Bool} {n k : Nat} {i : Int} (h : i.natAbs.log2 ≤ k) (hk : k < 1800) : Shp z n (k + 9) (.int i) := ⟨by simp [okd]; split <;> omega, by simp [PyData.depth], by simp [wgt]; omega⟩
theorem log_le {i : Int} {k : Nat} (h0 : -(2 ^ k) < i) (h1 : i < 2 ^ k) : i.natAbs.log2 ≤ k := by
  by_cases z : i = 0
  · subst z; simp
  · have e : ((2 ^ k : Nat) : Int) = 2 ^ k := by simp
    have : i.natAbs < 2 ^ k := by omega
    have := (Nat.log2_lt (by omega)).mpr this
    omega
theorem Shp.str {z : Bool} {n w : Nat} {x : Str} (h : PyData.strOk x = true) (hw : (PyData.shown (.str x)).length ≤ w) : Shp z n w (.str x) := ⟨by simp [okd, h], by simp [PyData.depth], by simp only [wgt]; exact hw⟩
theorem Shp.up {n w : Nat} {d : PyData} (h : Shp false n w d) : Shp true n w d := by
  have a : ∀ xs : List PyData, (∀ x ∈ xs, okd false x = true → okd true x = true) → okdL false xs = true → okdL true xs = true := by
    intro xs
    induction xs with
    | nil => intros; simp [okdL]
    | cons x xs ih =>
      intro h k
      simp only [okdL, Bool.and_eq_true] at k ⊢
      exact ⟨h x (List.mem_cons_self ..) k.1, ih (fun y hy => h y (List.mem_cons_of_mem _ hy)) k.2⟩
  refine ⟨?_, h.dp, h.wt⟩
  have := h.ok
  clear h
  revert this
  exact PyData.rec (motive_1 := fun d => okd false d = true → okd true d = true) (motive_2 := fun xs => okdL false xs = true → okdL true xs = true) (motive_3 := fun _ => True) (motive_4 := fun _ => True)
    (by simp [okd]) (by simp [okd]) (fun i h => by simp [okd] at h ⊢; omega) (by simp [okd]) (fun xs ih h => by simp only [okd] at h ⊢; exact ih h) (fun xs ih h => by simp only [okd] at h ⊢; exact ih h) (fun kvs _ h => by simp [okd] at h)
    (by simp [okdL]) (fun x xs h1 h2 h => by simp only [okdL, Bool.and_eq_true] at h ⊢; exact ⟨h1 h.1, h2 h.2⟩) trivial (fun _ _ _ _ => trivial) (fun _ _ _ _ => trivial) d

theorem okd_lay {z : Bool} (hz : z = false) (d : PyData) : okd z d = true → d.canLay0 = true := by
  subst hz
  exact PyData.rec (motive_1 := fun d => okd false d = true → d.canLay0 = true) (motive_2 := fun xs => okdL false xs = true → PyData.canLayAll0 xs = true) (motive_3 := fun _ => True) (motive_4 := fun _ => True)
    (by simp [PyData.canLay0]) (by simp [PyData.canLay0]) (by simp [PyData.canLay0]) (by simp [okd, PyData.canLay0]) (fun xs ih h => by simp only [okd] at h; simp only [PyData.canLay0]; exact ih h) (fun xs ih h => by simp only [okd] at h; simp only [PyData.canLay0]; exact ih h) (fun kvs _ h => by simp [okd] at h)
    (by simp [PyData.canLayAll0]) (fun x xs h1 h2 h => by simp only [okdL, Bool.and_eq_true] at h; simp only [PyData.canLayAll0, Bool.and_eq_true]; exact ⟨h1 h.1, h2 h.2⟩) trivial (fun _ _ _ _ => trivial) (fun _ _ _ _ => trivial) d
theorem okd_show {z : Bool} (d : PyData) : okd z d = true → d.showable = true := by
  exact PyData.rec (motive_1 := fun d => okd z d = true → d.showable = true) (motive_2 := fun xs => okdL z xs = true → PyData.showableAll xs = true) (motive_3 := fun _ => True) (motive_4 := fun _ => True)
    (by simp [PyData.showable]) (by simp [PyData.showable]) (fun i h => by simp only [okd, decide_eq_true_eq] at h; simp only [PyData.showable, decide_eq_true_eq]; split at h <;> omega) (by simp [PyData.showable]) (fun xs ih h => by simp only [okd] at h; simp only [PyData.showable]; exact ih h) (fun xs ih h => by simp only [okd] at h; simp only [PyData.showable]; exact ih h)
    (fun kvs _ h => by
      simp only [okd, Bool.and_eq_true] at h
      have : kvs = [] := by simpa using h.2
      subst this
      simp [PyData.showable, PyData.showableKv])
    (by simp [PyData.showableAll]) (fun x xs h1 h2 h => by simp only [okdL, Bool.and_eq_true] at h; simp only [PyData.showableAll, Bool.and_eq_true]; exact ⟨h1 h.1, h2 h.2⟩) trivial (fun _ _ _ _ => trivial) (fun _ _ _ _ => trivial) d
def lens (xs : List PyData) : Nat := (xs.map fun x => x.shown.length + 2).sum
theorem piled_lens : ∀ xs : List PyData, piled (xs.map PyData.shown) = lens xs
  | [] => by simp [piled, lens]
  | x :: xs => by
    have := piled_lens xs
    simp only [List.map_cons, piled, lens, List.sum_cons] at *
    omega
theorem textFrom_lens : ∀ (xs : List PyData) (k : Nat) (acc : Str), (textFrom k acc (xs.map PyData.shown)).length ≤ acc.length + lens xs
  | [], k, acc => by simp [textFrom, lens]
  | x :: r, k, acc => by
    have ih := textFrom_lens r (k + 1) (acc ++ (if k > 0 then ", " else "" : String) ++ x.shown)
    have e : (acc ++ (if k > 0 then ", " else "" : String) ++ x.shown).length ≤ acc.length + 2 + x.shown.length := by
      rw [strLen_append, strLen_append]
      split
      · have : ((", " : String) : Str).length = 2 := rfl
        omega
      · have : (("" : String) : Str).length = 0 := rfl
        omega
    show (textFrom (k + 1) _ (r.map PyData.shown)).length ≤ _
    simp only [lens, List.map_cons, List.sum_cons] at ih ⊢
    omega
theorem okd_len {z : Bool} (d : PyData) : okd z d = true → d.shown.length ≤ wgt d := by
  refine PyData.rec (motive_1 := fun d => okd z d = true → d.shown.length ≤ wgt d) (motive_2 := fun xs => okdL z xs = true → lens xs ≤ wgtL xs) (motive_3 := fun _ => True) (motive_4 := fun _ => True)
    ?_ ?_ ?_ ?_ ?_ ?_ ?_ ?_ ?_ trivial (fun _ _ _ _ => trivial) (fun _ _ _ _ => trivial) d
  · intro _; simp only [PyData.shown, wgt]; decide
  · intro b _; cases b <;> (simp only [PyData.shown, wgt]; decide)
  · intro i h
    have := int_text_length_le (show 0 < i.natAbs.log2 + 1 by omega) (show i.natAbs.log2 < i.natAbs.log2 + 1 by omega)
    simp only [PyData.shown, wgt]
    show (Str.ofString (toString i)).length ≤ _
    rw [PySem.ofString_length]
    omega
  · intro x _; simp only [wgt]; exact Nat.le_refl _
  · intro xs ih h
    have ih := ih (by simpa only [okd] using h)
    simp only [PyData.shown, shownAll_map, wgt]
    unfold listText
    rw [strLen_append]
    have q := textFrom_lens xs 0 "["
    have e1 : (("[" : String) : Str).length = 1 := rfl
    have e2 : (("]" : String) : Str).length = 1 := rfl
    omega
  · intro xs ih h
    have ih := ih (by simpa only [okd] using h)
    simp only [PyData.shown, shownAll_map, wgt]
    unfold tupleText
    rw [strLen_append, strLen_append]
    have e1 : (("(" : String) : Str).length = 1 := rfl
    have e2 : ((if (xs.map PyData.shown).length == 1 then ",)" else ")" : String) : Str).length ≤ 2 := by split <;> decide
    have j : (Str.join ", " (xs.map PyData.shown)).length ≤ piled (xs.map PyData.shown) := by
      by_cases z : xs.map PyData.shown = []
      · rw [z]; decide
      · have := join_length_add _ z; omega
    rw [piled_lens] at j
    omega
  · intro kvs _ h
    simp only [okd, Bool.and_eq_true] at h
    have : kvs = [] := by simpa using h.2
    subst this
    simp only [PyData.shown, wgt]
    decide
  · intro _; simp [lens, wgtL]
  · intro x xs h1 h2 h
    simp only [okdL, Bool.and_eq_true] at h
    have h1 := h1 h.1
    have h2 := h2 h.2
    simp only [lens, List.map_cons, List.sum_cons, wgtL] at *
    omega
theorem Shp.shaped {n w : Nat} {d : PyData} (h : Shp false n w d) (hn : n ≤ 60 := by decide) : SeqAt.shaped d = true := by
  have := okd_lay rfl d h.ok
  simp only [SeqAt.shaped, this, Bool.true_and, decide_eq_true_eq]
  have := h.dp
  omega
theorem Shp.repr {z : Bool} {n w : Nat} {d : PyData} {X : Prop} (h : Shp z n w d) (k : X) (hn : n ≤ 60 := by decide) (hw : w ≤ 16000000 := by decide) : d.showable = true ∧ d.depth ≤ 60 ∧ d.shown.length ≤ 16000000 ∧ X :=
  ⟨okd_show d h.ok, Nat.le_trans h.dp hn, Nat.le_trans (okd_len d h.ok) (Nat.le_trans h.wt hw), k⟩
theorem okdL_iff {z : Bool} : ∀ {xs : List PyData}, okdL z xs = true ↔ ∀ x ∈ xs, okd z x = true
  | [] => by simp [okdL]
  | x :: xs => by simp [okdL, okdL_iff (xs := xs)]
theorem depthL_iff {n : Nat} : ∀ {xs : List PyData}, PyData.depthAll xs ≤ n ↔ ∀ x ∈ xs, x.depth ≤ n
  | [] => by simp [PyData.depthAll]
  | x :: xs => by
    simp only [PyData.depthAll, List.forall_mem_cons, ← depthL_iff (xs := xs)]
    omega
theorem wgtL_mem : ∀ {xs : List PyData} {x : PyData}, x ∈ xs → wgt x + 2 ≤ wgtL xs
  | y :: ys, x, h => by
    simp only [wgtL]
    rcases List.mem_cons.mp h with rfl | h
    · omega
    · have := wgtL_mem h; omega
theorem wgtL_take : ∀ (xs : List PyData) (n : Nat), wgtL (xs.take n) ≤ wgtL xs
  | [], n => by simp
  | x :: xs, 0 => by simp [wgtL]
  | x :: xs, n + 1 => by have := wgtL_take xs n; simp only [List.take_succ_cons, wgtL]; omega
theorem wgtL_drop : ∀ (xs : List PyData) (n : Nat), wgtL (xs.drop n) ≤ wgtL xs
  | [], n => by simp
  | x :: xs, 0 => by simp
  | x :: xs, n + 1 => by have := wgtL_drop xs n; simp only [List.drop_succ_cons, wgtL]; omega
theorem wgtL_rev : ∀ (xs : List PyData), wgtL xs.reverse = wgtL xs
  | [] => rfl
  | x :: xs => by rw [List.reverse_cons, wgtL_app, wgtL_rev xs]; simp [wgtL]; omega
theorem ShpL.part {z : Bool} {n w : Nat} {xs ys : List PyData} (h : ShpL z n w xs) (hm : ∀ y ∈ ys, y ∈ xs) (hw : wgtL ys ≤ wgtL xs) : ShpL z n w ys :=
  ⟨okdL_iff.mpr fun y hy => okdL_iff.mp h.ok y (hm y hy), depthL_iff.mpr fun y hy => depthL_iff.mp h.dp y (hm y hy), Nat.le_trans hw h.wt⟩
theorem ShpL.take {z : Bool} {n w : Nat} {xs : List PyData} (h : ShpL z n w xs) (k : Nat) : ShpL z n w (xs.take k) := h.part (fun _ hy => List.mem_of_mem_take hy) (wgtL_take _ _)
theorem ShpL.drop {z : Bool} {n w : Nat} {xs : List PyData} (h : ShpL z n w xs) (k : Nat) : ShpL z n w (xs.drop k) := h.part (fun _ hy => List.mem_of_mem_drop hy) (wgtL_drop _ _)
theorem ShpL.rev {z : Bool} {n w : Nat} {xs : List PyData} (h : ShpL z n w xs) : ShpL z n w xs.reverse := h.part (fun _ hy => List.mem_reverse.mp hy) (by rw [wgtL_rev]; exact Nat.le_refl _)
theorem ShpL.cut {z : Bool} {n w : Nat} {xs : List PyData} (h : ShpL z n w xs) (lo hi : Option Int) : ShpL z n w (DL.cutD xs lo hi) := by
  unfold DL.cutD
  exact (h.drop _).take _
theorem ShpL.mem {z : Bool} {n w : Nat} {xs : List PyData} (h : ShpL z n w xs) {x : PyData} (hx : x ∈ xs) : Shp z n w x :=
  ⟨okdL_iff.mp h.ok x hx, depthL_iff.mp h.dp x hx, by have := wgtL_mem hx; have := h.wt; omega⟩
theorem Shp.items {z : Bool} {n w : Nat} {xs : List PyData} (h : Shp z (n + 1) w (.tuple xs)) : ShpL z n w xs :=
  ⟨by have := h.ok; simpa only [okd] using this, by have := h.dp; simp only [PyData.depth] at this; omega, by have := h.wt; simp only [wgt] at this; omega⟩
theorem Shp.pos {z : Bool} {n w : Nat} {xs : List PyData} (h : Shp z n w (.tuple xs)) : ∃ m, n = m + 1 := by
  have := h.dp
  simp only [PyData.depth] at this
  exact ⟨n - 1, by omega⟩
theorem ShpL.up {n w : Nat} {xs : List PyData} (h : ShpL false n w xs) : ShpL true n w xs :=
  ⟨okdL_iff.mpr fun x hx => (Shp.up (h.mem hx)).ok, h.dp, h.wt⟩
theorem Shp.text {z : Bool} {n k : Nat} {x : Str} (h : PyData.strOk x = true) (hk : x.length ≤ k) : Shp z n (10 * k + 2) (.str x) := by
  refine Shp.str h ?_
  have h2 : ∀ c ∈ x.cps.toList, c < 16 ^ 8 := fun c hc => by
    unfold PyData.strOk at h
    rw [← Array.all_toList, List.all_eq_true] at h
    have := h c hc
    simp only [decide_eq_true_eq] at this
    omega
  have := StrLaws.reprText_len x h2
  simp only [PyData.shown]
  omega
end TW
set_option Elab.async false
set_option linter.all false
set_option maxRecDepth 100000
set_option maxHeartbeats 4000000
namespace TW
open PySem PySem.Spec PyProof.Rows L2 DL

abbrev lI (ns : List Int) : List PyData := ns.map PyData.int
abbrev tI (ns : List Int) : PyData := .tuple (lI ns)
abbrev lN (ns : List Nat) : List PyData := ns.map fun (i : Nat) => PyData.int (i : Int)
abbrev prD (a b : List Int) : PyData := .tuple [tI a, tI b]
def gi (ns : List Int) (i : Nat) : Int := ns[i]?.getD 1
theorem gi_at {ns : List Int} {i : Nat} (h : i < ns.length) : ns[i]? = some (gi ns i) := by
  unfold gi; rw [List.getElem?_eq_getElem h]; rfl
theorem gi_mem {ns : List Int} {i : Nat} (h : i < ns.length) : gi ns i ∈ ns := by
  have := gi_at h
  exact List.mem_of_getElem? this
@[simp] theorem gi_cons0 (x : Int) (xs : List Int) : gi (x :: xs) 0 = x := rfl
@[simp] theorem gi_consS (x : Int) (xs : List Int) (i : Nat) : gi (x :: xs) (i + 1) = gi xs i := by simp [gi]
@[simp] theorem gi_cons1 (x : Int) (xs : List Int) : gi (x :: xs) 1 = gi xs 0 := by simp [gi]
theorem numbered_gi (ns : List Int) : numbered 0 (lI ns) = (List.range ns.length).map fun (i : Nat) => .tuple [.int (i : Int), .int (gi ns i)] := by
  rw [numbered_zip]
  apply List.ext_getElem?
  intro i
  by_cases h : i < ns.length
  · have e : ns[i]? = some ns[i] := List.getElem?_eq_getElem h
    rw [List.getElem?_map, List.getElem?_map, List.getElem?_range h, List.getElem?_zipIdx, e]
    have := gi_at h
    rw [e] at this
    simp [Option.some.inj this]
  · rw [List.getElem?_eq_none (by simp; omega), List.getElem?_eq_none (by simp; omega)]
theorem gi_range {n i : Nat} {f : Nat → Int} (h : i < n) : gi ((List.range n).map f) i = f i := by
  have := gi_at (ns := (List.range n).map f) (i := i) (by simpa using h)
  rw [List.getElem?_map, List.getElem?_range h] at this
  exact (Option.some.inj this).symm
theorem fm_map {α β : Type} (p : α → Bool) (f : α → β) (as : List α) : as.filterMap (fun a => if p a = true then some (f a) else none) = (as.filter p).map f := by
  induction as with
  | nil => rfl
  | cons a as ih => by_cases h : p a = true <;> simp [h, ih]
theorem shp_ints {z : Bool} {k L : Nat} {ns : List Int} (hl : ns.length ≤ L) (h : ∀ x ∈ ns, x.natAbs.log2 ≤ k) (hk : k < 1800 := by decide) : ShpL z 0 (L * (k + 9 + 2)) (lI ns) := ShpL.map (fun a ha => Shp.intB (h a ha) hk) hl
theorem shaped_nats (ns : List Nat) : SeqAt.shaped (.list (lN ns)) = true := by
  have := shaped_ints (ns.map fun (i : Nat) => (i : Int))
  rw [List.map_map] at this; exact this
theorem eqv_nats (ns : List Nat) : PyData.eqvAll (lN ns) [] = ns.isEmpty := by
  cases ns <;> simp [PyData.eqvAll]
theorem shaped_nil : SeqAt.shaped (.list []) = true := by decide
theorem for_stay {g : DTG} {b : DTS} {δ : DS} {E : DEnds} {u : Stop E} {xs : List PyData} (P : DS → Prop) (h : P δ) (h0 : ∀ δ, P δ → E.nx δ)
    (hs : ∀ x ∈ xs, ∀ δ, P δ → ∀ (K B : DS → Prop) (T : PyData → DS → Prop), (∀ δ', P δ' → K δ') → g x δ fun δ1 => b { nx := K, rt := T, bk := B, ct := K } δ1) : forC g b xs δ E u :=
  for_inv (fun ys δ => (∀ y ∈ ys, y ∈ xs) ∧ P δ) (fun _ => False) (fun _ _ => False) ⟨fun _ h => h, h⟩ (fun δ h => h0 δ h.2) (fun _ h => h.elim) (fun _ _ h => h.elim) fun x ys δ h K B T hK _ _ =>
    hs x (h.1 x (List.mem_cons_self ..)) δ h.2 K B T fun δ' hp => hK δ' ⟨fun y hy => h.1 y (List.mem_cons_of_mem _ hy), hp⟩
theorem for_nil {g : DTG} {b : DTS} {δ : DS} {E : DEnds} {u : Stop E} : forC g b [] δ E u = E.nx δ := rfl
def forK (g : DTG) (b : DTS) (xs : List PyData) (E : DEnds) : DS → Prop := fun δ => forC g b xs δ E .mk
theorem forK_ap (g : DTG) (b : DTS) (xs : List PyData) (E : DEnds) (δ : DS) : forK g b xs E δ = forC g b xs δ E .mk := rfl
theorem for_cons {g : DTG} {b : DTS} {x : PyData} {xs : List PyData} {δ : DS} {E : DEnds} {u : Stop E} : forC g b (x :: xs) δ E u = (g x δ fun δ1 => b { nx := forK g b xs E, rt := E.rt, bk := E.nx, ct := forK g b xs E } δ1) := rfl
def gd (ds : List PyData) (i : Nat) : PyData := ds[i]?.getD .none
end TW
set_option Elab.async false
set_option linter.all false
set_option maxRecDepth 100000
set_option maxHeartbeats 4000000
namespace TW
open PySem PySem.Spec PyProof.Rows L2 DL
def sp_common : DSp := fun cs R => ∃ a b, cs = [.d (.int a), .d (.int b)] ∧ 0 ≤ a ∧ 0 ≤ b ∧ R (.int (gcdI a b)) cs
def sp_inverse : DSp := fun cs R => ∃ a b, cs = [.d (.int a), .d (.int b)] ∧ Pos b ∧ R (.int (invF a b)) cs
def optI : Option Int → PyData
  | some x => .int x
  | none => .none
@[simp] theorem optI_some (x : Int) : optI (some x) = .int x := rfl
@[simp] theorem optI_none : optI none = .none := rfl
def sp_least_times : DSp := fun cs R => ∃ a b s, cs = [.d (.int a), .d (.int b), .d (.int s)] ∧ Pos a ∧ Pos b ∧ -BIG ≤ s ∧ s ≤ BIG ∧ R (optI (timesF a b s)) cs
def restsF (br bx : List Int) : List Nat := (List.range bx.length).filter fun i => !decide (gi bx i % gi br i = 0)
def sp_rests : DSp := fun cs R => ∃ br bx : List Int, cs = [.d (tI br), .d (tI bx)] ∧ bx.length ≤ br.length ∧ (∀ x ∈ br, 1 ≤ x) ∧ R (.list (lN (restsF br bx))) cs
structure PB (a b bx : List Int) : Prop where
  la : a.length = bx.length
  lb : b.length = bx.length
  l0 : 0 < bx.length
  l1 : bx.length ≤ 10
  pa : ∀ x ∈ a, Pos x
  pb : ∀ x ∈ b, Pos x
  px : ∀ x ∈ bx, Pos x
def barF (a b s : Int) (ax : Nat) : PyData := match timesF a b s with
  | none => .tuple [.str "step", .int (ax : Int)]
  | some t => if a * t - s > 0 then .tuple [.str "gap", .int (ax : Int), .int t, .int ((a * t - s) / b)] else .none
def barD (a b bx : List Int) (ax : Nat) : PyData := barF (gi a ax) (gi b ax) (gi bx ax) ax
def sp_bar_along : DSp := fun cs R => ∃ a b bx ax, cs = [.d (prD a b), .d (tI bx), .d (.int (ax : Nat))] ∧ PB a b bx ∧ ax < bx.length ∧ R (barD a b bx ax) cs
def crossF (a b bx : List Int) : List (Nat × Nat) := (restsF a bx).flatMap fun i => ((restsF b bx).filter fun j => !decide (i = j)).map fun j => (i, j)
def crD (p : Nat × Nat) : PyData := .tuple [.str "sides", .int (p.1 : Int), .int (p.2 : Int)]
def sp_crossing : DSp := fun cs R => ∃ a b bx, cs = [.d (prD a b), .d (tI bx)] ∧ PB a b bx ∧ R (.list ((crossF a b bx).map crD)) cs
def paperF (a b bx : List Int) : PyData :=
  if restsF a bx = [] then .tuple [.str "cut", .int 0, .int 0, .int (gi bx 0)]
  else if restsF b bx = [] then .tuple [.str "cut", .int 1, .int 0, .int (gi bx 0)]
  else match crossF a b bx with
    | p :: _ => crD p
    | [] => match (restsF a bx).headD 0 with
      | ax => match barD a b bx ax with
        | .none => .tuple [.str "cut", .int 0, .int (ax : Int), .int (gi a ax * (timesF (gi a ax) (gi b ax) (gi bx ax)).getD 0)]
        | d => d
def sp_paper : DSp := fun cs R => ∃ a b bx, cs = [.d (prD a b), .d (tI bx)] ∧ PB a b bx ∧ R (paperF a b bx) cs
def fillB (a b bx : List Int) : Bool :=
  (restsF a bx).isEmpty || (restsF b bx).isEmpty || (decide (restsF a bx = restsF b bx) && decide ((restsF a bx).length = 1) && isSum (gi a ((restsF a bx).headD 0)) (gi b ((restsF a bx).headD 0)) (gi bx ((restsF a bx).headD 0)))
def sp_is_filled : DSp := fun cs R => ∃ a b bx, cs = [.d (prD a b), .d (tI bx)] ∧ PB a b bx ∧ R (.bool (fillB a b bx)) cs
def w_common_1 : DTS := (wPar2 0 1 (msCons (mE (wVar 1)) (msCons (mE (wOp pMod (wVar 0) (wVar 1))) msNil)))
def w_common : DTS := (wSeq (wWhile (wB (wOp pGt (wVar 1) (wC (.int 0)))) w_common_1) (wRet (wVar 0)))
def w_inverse_s1 : DTS := (wPar2 4 5 (msCons (mE (wOp pSubB (wVar 5) (wOp pMulT (wVar 6) (wVar 4)))) (msCons (mE (wVar 4)) msNil)))
@[simp ↓] theorem w_inverse_s1_ap (E : DEnds) (δ : DS) : w_inverse_s1 E δ = (wPar2 4 5 (msCons (mE (wOp pSubB (wVar 5) (wOp pMulT (wVar 6) (wVar 4)))) (msCons (mE (wVar 4)) msNil))) E δ := rfl
def w_inverse_s2 : DTS := (wSeq (wPar2 2 3 (msCons (mE (wOp pSubB (wVar 3) (wOp pMulT (wVar 6) (wVar 2)))) (msCons (mE (wVar 2)) msNil))) w_inverse_s1)
@[simp ↓] theorem w_inverse_s2_ap (E : DEnds) (δ : DS) : w_inverse_s2 E δ = (wSeq (wPar2 2 3 (msCons (mE (wOp pSubB (wVar 3) (wOp pMulT (wVar 6) (wVar 2)))) (msCons (mE (wVar 2)) msNil))) w_inverse_s1) E δ := rfl
def w_inverse_1 : DTS := (wSeq (wSet 6 (mE (wOp pDiv (wVar 3) (wVar 2)))) w_inverse_s2)
def w_inverse_s3 : DTS := (wSeq (wWhile (wB (wOp pGt (wVar 2) (wC (.int 0)))) w_inverse_1) (wRet (wOp pMod (wVar 5) (wVar 1))))
@[simp ↓] theorem w_inverse_s3_ap (E : DEnds) (δ : DS) : w_inverse_s3 E δ = (wSeq (wWhile (wB (wOp pGt (wVar 2) (wC (.int 0)))) w_inverse_1) (wRet (wOp pMod (wVar 5) (wVar 1)))) E δ := rfl
def w_inverse : DTS := (wSeq (wAsgG (wTup (wCons (wOp pMod (wVar 0) (wVar 1)) (wCons (wVar 1) (wCons (wC (.int 1)) (wCons (wC (.int 0)) wNil))))) (gT (gsCons (gN 2) (gsCons (gN 3) (gsCons (gN 4) (gsCons (gN 5) gsNil)))))) w_inverse_s3)
def w_least_times_t1 : DTS := (wRet (wOp pMod (wOp pMulT (wOp pDiv (wVar 2) (wVar 3)) (wCall [] sp_inverse (wCons (wOp pDiv (wVar 0) (wVar 3)) (wCons (wOp pDiv (wVar 1) (wVar 3)) wNil)))) (wOp pDiv (wVar 1) (wVar 3))))
def w_least_times_s1 : DTS := (wSeq (wIf (wB (wOp pNe (wOp pMod (wVar 2) (wVar 3)) (wC (.int 0)))) (wRet (wC .none)) wNext) w_least_times_t1)
@[simp ↓] theorem w_least_times_s1_ap (E : DEnds) (δ : DS) : w_least_times_s1 E δ = (wSeq (wIf (wB (wOp pNe (wOp pMod (wVar 2) (wVar 3)) (wC (.int 0)))) (wRet (wC .none)) wNext) w_least_times_t1) E δ := rfl
def w_least_times : DTS := (wSeq (wSet 3 (mE (wCall [] sp_common (wCons (wVar 0) (wCons (wVar 1) wNil))))) w_least_times_s1)
def w_rests : DTS := (wRet (wOfL (wComp (iEnumD (wCons (wVar 1) wNil)) (gT (gsCons (gN 2) (gsCons (gN 3) gsNil))) (wB (wOp pNe (wOp pMod (wVar 3) (wOp pIx (wVar 0) (wVar 2))) (wC (.int 0)))) (wVar 2) [2, 3])))
def w_bar_along_s1 : DTS := (wRet (wIfE (wB (wOp pGt (wVar 7) (wC (.int 0)))) (wTup (wCons (wC (.str "gap")) (wCons (wVar 2) (wCons (wVar 6) (wCons (wOp pDiv (wVar 7) (wVar 4)) wNil))))) (wC .none)))
@[simp ↓] theorem w_bar_along_s1_ap (E : DEnds) (δ : DS) : w_bar_along_s1 E δ = (wRet (wIfE (wB (wOp pGt (wVar 7) (wC (.int 0)))) (wTup (wCons (wC (.str "gap")) (wCons (wVar 2) (wCons (wVar 6) (wCons (wOp pDiv (wVar 7) (wVar 4)) wNil))))) (wC .none))) E δ := rfl
def w_bar_along_1 : DTS := (wRet (wTup (wCons (wC (.str "step")) (wCons (wVar 2) wNil))))
def w_bar_along_t1 : DTS := (wSeq (wSet 7 (mE (wOp pSubB (wOp pMulT (wVar 3) (wVar 6)) (wVar 5)))) w_bar_along_s1)
def w_bar_along_s2 : DTS := (wSeq (wIf (wB (wOp pIs (wVar 6) (wC .none))) w_bar_along_1 wNext) w_bar_along_t1)
@[simp ↓] theorem w_bar_along_s2_ap (E : DEnds) (δ : DS) : w_bar_along_s2 E δ = (wSeq (wIf (wB (wOp pIs (wVar 6) (wC .none))) w_bar_along_1 wNext) w_bar_along_t1) E δ := rfl
def w_bar_along_s3 : DTS := (wSeq (wSet 6 (mE (wCall [] sp_least_times (wCons (wVar 3) (wCons (wVar 4) (wCons (wVar 5) wNil)))))) w_bar_along_s2)
@[simp ↓] theorem w_bar_along_s3_ap (E : DEnds) (δ : DS) : w_bar_along_s3 E δ = (wSeq (wSet 6 (mE (wCall [] sp_least_times (wCons (wVar 3) (wCons (wVar 4) (wCons (wVar 5) wNil)))))) w_bar_along_s2) E δ := rfl
def w_bar_along : DTS := (wSeq (wPar3 3 4 5 (msCons (mE (wOp pIx (wOp pIx (wVar 0) (wC (.int 0))) (wVar 2))) (msCons (mE (wOp pIx (wOp pIx (wVar 0) (wC (.int 1))) (wVar 2))) (msCons (mE (wOp pIx (wVar 1) (wVar 2))) msNil)))) w_bar_along_s3)
def w_crossing_1 : DTS := (wExtend 2 (wOfL (wComp (iSeq (wCall [] sp_rests (wCons (wOp pIx (wVar 0) (wC (.int 1))) (wCons (wVar 1) wNil)))) (gN 4) (wB (wOp pNe (wVar 3) (wVar 4))) (wTup (wCons (wC (.str "sides")) (wCons (wVar 3) (wCons (wVar 4) wNil)))) [4])))
def w_crossing_s1 : DTS := (wSeq (wFor (iSeq (wCall [] sp_rests (wCons (wOp pIx (wVar 0) (wC (.int 0))) (wCons (wVar 1) wNil)))) (gN 3) w_crossing_1) (wRet (wVar 2)))
@[simp ↓] theorem w_crossing_s1_ap (E : DEnds) (δ : DS) : w_crossing_s1 E δ = (wSeq (wFor (iSeq (wCall [] sp_rests (wCons (wOp pIx (wVar 0) (wC (.int 0))) (wCons (wVar 1) wNil)))) (gN 3) w_crossing_1) (wRet (wVar 2))) E δ := rfl
def w_crossing : DTS := (wSeq (wSet 2 (mL (wLst wNil))) w_crossing_s1)
def w_paper_t1 : DTS := (wRet (wTup (wCons (wC (.str "cut")) (wCons (wC (.int 0)) (wCons (wVar 5) (wCons (wOp pMulT (wOp pIx (wOp pIx (wVar 0) (wC (.int 0))) (wVar 5)) (wCall [] sp_least_times (wCons (wOp pIx (wOp pIx (wVar 0) (wC (.int 0))) (wVar 5)) (wCons (wOp pIx (wOp pIx (wVar 0) (wC (.int 1))) (wVar 5)) (wCons (wOp pIx (wVar 1) (wVar 5)) wNil))))) wNil))))))
def w_paper_s1 : DTS := (wSeq (wIf (wB (wOp pIsNot (wVar 6) (wC .none))) (wRet (wVar 6)) wNext) w_paper_t1)
@[simp ↓] theorem w_paper_s1_ap (E : DEnds) (δ : DS) : w_paper_s1 E δ = (wSeq (wIf (wB (wOp pIsNot (wVar 6) (wC .none))) (wRet (wVar 6)) wNext) w_paper_t1) E δ := rfl
def w_paper_s2 : DTS := (wSeq (wSet 6 (mE (wCall [] sp_bar_along (wCons (wVar 0) (wCons (wVar 1) (wCons (wVar 5) wNil)))))) w_paper_s1)
@[simp ↓] theorem w_paper_s2_ap (E : DEnds) (δ : DS) : w_paper_s2 E δ = (wSeq (wSet 6 (mE (wCall [] sp_bar_along (wCons (wVar 0) (wCons (wVar 1) (wCons (wVar 5) wNil)))))) w_paper_s1) E δ := rfl
def w_paper_t2 : DTS := (wSeq (wSet 5 (mE (wOp pIx (wCall [] sp_rests (wCons (wOp pIx (wVar 0) (wC (.int 0))) (wCons (wVar 1) wNil))) (wC (.int 0))))) w_paper_s2)
def w_paper_s3 : DTS := (wSeq (wIf (wB (wOp pNe (wVar 4) (wOfL (wLst wNil)))) (wRet (wOp pIx (wVar 4) (wC (.int 0)))) wNext) w_paper_t2)
@[simp ↓] theorem w_paper_s3_ap (E : DEnds) (δ : DS) : w_paper_s3 E δ = (wSeq (wIf (wB (wOp pNe (wVar 4) (wOfL (wLst wNil)))) (wRet (wOp pIx (wVar 4) (wC (.int 0)))) wNext) w_paper_t2) E δ := rfl
def w_paper_3 : DTS := (wRet (wTup (wCons (wC (.str "cut")) (wCons (wVar 2) (wCons (wC (.int 0)) (wCons (wOp pIx (wVar 1) (wC (.int 0))) wNil))))))
def w_paper_4 : DTS := (wIf (wB (wOp pEq (wCall [] sp_rests (wCons (wVar 3) (wCons (wVar 1) wNil))) (wOfL (wLst wNil)))) w_paper_3 wNext)
def w_paper_t3 : DTS := (wSeq (wSet 4 (mE (wCall [] sp_crossing (wCons (wVar 0) (wCons (wVar 1) wNil))))) w_paper_s3)
def w_paper : DTS := (wSeq (wFor (iEnumD (wCons (wVar 0) wNil)) (gT (gsCons (gN 2) (gsCons (gN 3) gsNil))) w_paper_4) w_paper_t3)
def w_is_filled : DTS := (wRet (wOp pEq (wOp pIx (wCall [] sp_paper (wCons (wVar 0) (wCons (wVar 1) wNil))) (wC (.int 0))) (wC (.str "cut"))))
theorem ln_common : ∀ cs R, sp_common cs R → cs.length = 2 := by
  intro cs R h
  unfold sp_common at h
  repeat (obtain ⟨_, h⟩ := h)
  subst_vars; rfl
theorem ln_inverse : ∀ cs R, sp_inverse cs R → cs.length = 2 := by
  intro cs R h
  unfold sp_inverse at h
  repeat (obtain ⟨_, h⟩ := h)
  subst_vars; rfl
theorem ln_least_times : ∀ cs R, sp_least_times cs R → cs.length = 3 := by
  intro cs R h
  unfold sp_least_times at h
  repeat (obtain ⟨_, h⟩ := h)
  subst_vars; rfl
theorem ln_rests : ∀ cs R, sp_rests cs R → cs.length = 2 := by
  intro cs R h
  unfold sp_rests at h
  repeat (obtain ⟨_, h⟩ := h)
  subst_vars; rfl
theorem ln_bar_along : ∀ cs R, sp_bar_along cs R → cs.length = 3 := by
  intro cs R h
  unfold sp_bar_along at h
  repeat (obtain ⟨_, h⟩ := h)
  subst_vars; rfl
theorem ln_crossing : ∀ cs R, sp_crossing cs R → cs.length = 2 := by
  intro cs R h
  unfold sp_crossing at h
  repeat (obtain ⟨_, h⟩ := h)
  subst_vars; rfl
theorem ln_paper : ∀ cs R, sp_paper cs R → cs.length = 2 := by
  intro cs R h
  unfold sp_paper at h
  repeat (obtain ⟨_, h⟩ := h)
  subst_vars; rfl
theorem ln_is_filled : ∀ cs R, sp_is_filled cs R → cs.length = 2 := by
  intro cs R h
  unfold sp_is_filled at h
  repeat (obtain ⟨_, h⟩ := h)
  subst_vars; rfl
end TW
set_option Elab.async false
set_option linter.all false
set_option maxRecDepth 100000
set_option maxHeartbeats 4000000
namespace TW
open PySem PySem.Spec PyProof.Rows L2 DL
theorem rd_common : ∀ cs R, sp_common cs R → w_common (endsOf cs R) (start0 2 cs) := by
  rintro _ R ⟨a, b, rfl, ha, hb, hR⟩
  simp -implicitDefEqProofs -dsimp [w_common]
  refine while_plain (fun m δ => ∃ x y : Int, δ = [.d (.int x), .d (.int y)] ∧ 0 ≤ y ∧ 0 ≤ x ∧ y.toNat = m ∧ gcdI x y = gcdI a b) (fun δ => ∃ c1, δ = [.d (.int (gcdI a b)), .d c1]) b.toNat ⟨a, b, rfl, hb, ha, rfl, rfl⟩ ?_ ?_
  · rintro δ ⟨c1, rfl⟩
    (try simp -implicitDefEqProofs -dsimp)
    exact hR
  · rintro m δ ⟨x, y, rfl, h0, h1, rfl, hg⟩ K N T hK hN
    (try simp -implicitDefEqProofs -dsimp)
    split
    · rename_i hy
      simp -implicitDefEqProofs -dsimp [w_common_1]
      refine ⟨hy, hK (x % y).toNat _ ?_ ⟨y, x % y, rfl, Int.emod_nonneg _ (by omega), by omega, rfl, ?_⟩⟩
      · have := Int.emod_lt_of_pos x hy
        have := Int.emod_nonneg x (show y ≠ 0 by omega)
        omega
      · rw [gcd_step, hg]
    · rename_i hy
      have : y = 0 := by omega
      subst this
      have e : gcdI x 0 = x := by unfold gcdI; simp; omega
      refine hN _ ⟨.int 0, ?_⟩
      rw [← hg, e]
theorem abs_mul_le {q n : Int} (hq : 0 ≤ q) : (q * n).natAbs = q.toNat * n.natAbs := by
  rw [Int.natAbs_mul]; congr 1; omega
theorem rd_inverse : ∀ cs R, sp_inverse cs R → w_inverse (endsOf cs R) (start0 7 cs) := by
  rintro _ R ⟨a, b, rfl, ⟨hb0, hb1⟩, hR⟩
  have l0 : 0 ≤ a % b := Int.emod_nonneg _ (by omega)
  have l1 : a % b < b := Int.emod_lt_of_pos _ (by omega)
  simp -implicitDefEqProofs -dsimp [w_inverse]
  refine ⟨by omega, ?_⟩
  refine while_plain (fun m δ => ∃ (l r n t : Int) (c6 : Cell) (f : Nat), δ = [.d (.int a), .d (.int b), .d (.int l), .d (.int r), .d (.int n), .d (.int t), c6] ∧ 0 ≤ l ∧ 0 < r ∧ l < r ∧ r ≤ b ∧ n.natAbs * r.toNat + t.natAbs * l.toNat ≤ b.toNat ∧ l.toNat = m ∧ m < f ∧ invGo f l r n t = invGo (a % b).toNat.succ (a % b) b 1 0) (fun δ => ∃ c2 c3 c4 c6, δ = [.d (.int a), .d (.int b), c2, c3, c4, .d (.int (invGo (a % b).toNat.succ (a % b) b 1 0)), c6]) (a % b).toNat ⟨_, _, _, _, _, _, rfl, l0, by omega, by omega, by omega, by simp, rfl, by omega, rfl⟩ ?_ ?_
  · rintro δ ⟨c2, c3, c4, c6, rfl⟩
    (try simp -implicitDefEqProofs -dsimp)
    exact ⟨by omega, hR⟩
  · rintro m δ ⟨l, r, n, t, c6, f, rfl, h0, h1, h2, h3, h4, rfl, hf, hg⟩ K N T hK hN
    (try simp -implicitDefEqProofs -dsimp)
    obtain ⟨f, rfl⟩ : ∃ f', f = f' + 1 := ⟨f - 1, by omega⟩
    split
    · rename_i hl
      have q0 : 0 ≤ r / l := Int.ediv_nonneg (by omega) h0
      have q1 : r / l ≤ r := Int.ediv_le_self _ (by omega)
      have m0 := Int.emod_nonneg r (show l ≠ 0 by omega)
      have m1 := Int.emod_lt_of_pos r hl
      have e := sub_div r l
      have nb : n.natAbs ≤ b.toNat := by
        have : n.natAbs * 1 ≤ n.natAbs * r.toNat := Nat.mul_le_mul_left _ (by omega)
        omega
      have B := BIG_ge
      simp -implicitDefEqProofs -dsimp [w_inverse_1]
      refine ⟨div_big hl (by omega), mul_big (by omega) (by omega) (by omega) (by omega), mul_big (by omega) (by omega) (by omega) (by omega), hK (r % l).toNat _ (by omega) ⟨r - r / l * l, l, t - r / l * n, n, _, f, rfl, by omega, by omega, by omega, by omega, ?_, by rw [e], by omega, ?_⟩⟩
      · rw [e]
        have d1 : (t - r / l * n).natAbs ≤ t.natAbs + (r / l).toNat * n.natAbs := by
          have := abs_mul_le (n := n) q0
          omega
        have d2 := Nat.mul_le_mul_right l.toNat d1
        have d3 : r.toNat = l.toNat * (r / l).toNat + (r % l).toNat := by
          have := Int.mul_ediv_add_emod r l
          have h5 : ((l.toNat * (r / l).toNat : Nat) : Int) = l * (r / l) := by
            rw [Int.natCast_mul, Int.toNat_of_nonneg h0, Int.toNat_of_nonneg q0]
          omega
        have d4 : (t.natAbs + (r / l).toNat * n.natAbs) * l.toNat = t.natAbs * l.toNat + n.natAbs * (l.toNat * (r / l).toNat) := by
          rw [Nat.add_mul]
          congr 1
          rw [Nat.mul_comm (r / l).toNat, Nat.mul_assoc, Nat.mul_comm (r / l).toNat]
        have d5 : n.natAbs * r.toNat = n.natAbs * (l.toNat * (r / l).toNat) + n.natAbs * (r % l).toNat := by
          rw [d3, Nat.mul_add]
        omega
      · rw [← hg]
        show _ = if l > 0 then _ else _
        rw [if_pos hl]
    · rename_i hl
      have e : invGo (f + 1) l r n t = t := by
        show (if l > 0 then _ else _) = _
        rw [if_neg hl]
      rw [e] at hg
      exact hN _ ⟨_, _, _, _, by rw [hg]⟩
theorem gcd_div_pos {a b : Int} (ha : Pos a) (x : Int) (hd : gcdI a b ∣ x) (hx : Pos x) : Pos (x / gcdI a b) := by
  obtain ⟨g0, g1⟩ := gcd_le (b := b) ha.1
  obtain ⟨x0, x1⟩ := hx
  have e := Int.ediv_mul_cancel hd
  have l := Int.ediv_le_self (gcdI a b) (show 0 ≤ x by omega)
  have n := Int.ediv_nonneg (show 0 ≤ x by omega) (show 0 ≤ gcdI a b by omega)
  refine ⟨?_, by omega⟩
  have : x / gcdI a b ≠ 0 := fun z => by rw [z] at e; omega
  omega
theorem ediv_abs {x g : Int} (hg : 1 ≤ g) (h0 : -BIG ≤ x) (h1 : x ≤ BIG) : -BIG ≤ x / g ∧ x / g ≤ BIG := by
  have B := BIG_ge
  by_cases c : 0 ≤ x
  · have l := Int.ediv_le_self g c
    have n := Int.ediv_nonneg c (show 0 ≤ g by omega)
    omega
  · have n : x / g < 0 := Int.ediv_neg_of_neg_of_pos (by omega) (by omega)
    have : x ≤ x / g := by
      rw [Int.le_ediv_iff_mul_le (by omega)]
      have := Int.mul_le_mul_of_nonpos_left (show x ≤ 0 by omega) (show (1 : Int) ≤ g by omega)
      omega
    omega
theorem rd_least_times : ∀ cs R, sp_least_times cs R → w_least_times (endsOf cs R) (start0 4 cs) := by
  rintro _ R ⟨a, b, s, rfl, ha, hb, hs0, hs1, hR⟩
  obtain ⟨g0, g1⟩ := gcd_le (b := b) ha.1
  have qa := gcd_div_pos (b := b) ha a (gcd_dvd_l a b) ha
  have qb := gcd_div_pos (b := b) ha b (gcd_dvd_r a b) hb
  obtain ⟨i0, i1, _⟩ := inv_ok qb.1 (gcd_parts (b := b) ha.1)
  obtain ⟨a0, a1⟩ := ha
  obtain ⟨b0, b1⟩ := hb
  simp -implicitDefEqProofs -dsimp [w_least_times]
  refine ask_of ⟨a, b, rfl, by omega, by omega, ?_⟩
  (try simp -implicitDefEqProofs -dsimp)
  refine ⟨by omega, ?_⟩
  have lg := (div_big (j := gcdI a b) (by omega) (by omega)).2
  unfold timesF at hR
  split
  · rename_i h
    rw [if_neg (by simpa using h)] at hR
    simp -implicitDefEqProofs -dsimp [w_least_times_t1, lg]
    refine ⟨by omega, ask_of ⟨_, _, rfl, qb, ?_⟩⟩
    simp -implicitDefEqProofs -dsimp [lg]
    have := ediv_abs g0 hs0 hs1
    have B := BIG_ge
    have := qb.2
    exact ⟨mul_big (by omega) (by omega) (by omega) (by omega), by omega, by have := qb.1; omega, hR⟩
  · rename_i h
    rw [if_pos (by simpa using h)] at hR
    exact hR
theorem rd_rests : ∀ cs R, sp_rests cs R → w_rests (endsOf cs R) (start0 4 cs) := by
  rintro _ R ⟨br, bx, rfl, hl, hb, hR⟩
  simp -implicitDefEqProofs -dsimp [w_rests]
  refine com_map (List.range bx.length) _ (numbered_gi _) (fun i => if (!decide (gi bx i % gi br i = 0)) = true then some (.int (i : Nat)) else none) (fun i hi acc K hK => ?_) ?_
  · have hi := List.mem_range.mp hi
    have p := hb _ (gi_mem (ns := br) (i := i) (by omega))
    simp -implicitDefEqProofs -dsimp [gi_at (ns := br) (i := i) (by omega)]
    refine ⟨by omega, ?_⟩
    split
    · rename_i z
      simpa [z] using hK
    · rename_i z
      simpa [z] using hK
  · rw [fm_map]
    (try simp -implicitDefEqProofs -dsimp)
    exact hR
theorem PB.at {a b bx : List Int} (h : PB a b bx) {i : Nat} (hi : i < bx.length) : a[i]? = some (gi a i) ∧ b[i]? = some (gi b i) ∧ bx[i]? = some (gi bx i) ∧ Pos (gi a i) ∧ Pos (gi b i) ∧ Pos (gi bx i) :=
  have ha : i < a.length := by have := h.la; omega
  have hb : i < b.length := by have := h.lb; omega
  ⟨gi_at ha, gi_at hb, gi_at hi, h.pa _ (gi_mem ha), h.pb _ (gi_mem hb), h.px _ (gi_mem hi)⟩
theorem times_big {a b s t : Int} (ha : Pos a) (hb : Pos b) (h : timesF a b s = some t) : 0 ≤ t ∧ t ≤ BIG := by
  obtain ⟨_, t0, t1, _⟩ := times_some ha.1 hb.1 h
  obtain ⟨g0, _⟩ := gcd_le (b := b) ha.1
  have := Int.ediv_le_self (gcdI a b) (show 0 ≤ b by have := hb.1; omega)
  have := hb.2
  omega
theorem rd_bar_along : ∀ cs R, sp_bar_along cs R → w_bar_along (endsOf cs R) (start0 8 cs) := by
  rintro _ R ⟨a, b, bx, ax, rfl, h, hx, hR⟩
  obtain ⟨ea, eb, ex, qa, qb, qx⟩ := h.at hx
  unfold barD barF at hR
  simp -implicitDefEqProofs -dsimp [w_bar_along, ea, eb, ex]
  have B := BIG_ge
  have x0 := qx.1
  refine ask_of ⟨_, _, _, rfl, qa, qb, by omega, qx.2, ?_⟩
  cases ht : timesF (gi a ax) (gi b ax) (gi bx ax) with
  | none =>
    rw [ht] at hR
    simp -implicitDefEqProofs -dsimp [w_bar_along_1]
    exact hR
  | some t =>
    rw [ht] at hR
    have hR : R (if gi a ax * t - gi bx ax > 0 then .tuple [.str "gap", .int (ax : Int), .int t, .int ((gi a ax * t - gi bx ax) / gi b ax)] else .none) _ := hR
    obtain ⟨t0, t1⟩ := times_big qa qb ht
    simp -implicitDefEqProofs -dsimp [w_bar_along_t1]
    have a0 := qa.1
    have a1 := qa.2
    refine ⟨mul_big (by omega) (by omega) (by omega) (by omega), ?_⟩
    split
    · rename_i z
      rw [if_pos (show gi a ax * t - gi bx ax > 0 by omega)] at hR
      exact ⟨qb.div, hR⟩
    · rename_i z
      rw [if_neg (show ¬ gi a ax * t - gi bx ax > 0 by omega)] at hR
      exact hR
theorem mem_rests {a bx : List Int} {i : Nat} : i ∈ restsF a bx ↔ i < bx.length ∧ gi bx i % gi a i ≠ 0 := by
  unfold restsF
  rw [List.mem_filter, List.mem_range]; simp
theorem rests_len (a bx : List Int) : (restsF a bx).length ≤ bx.length := by
  unfold restsF
  exact Nat.le_trans (List.length_filter_le _ _) (by simp)
theorem rests_nodup (a bx : List Int) : (restsF a bx).Nodup := List.Pairwise.filter _ List.nodup_range
theorem rd_crossing : ∀ cs R, sp_crossing cs R → w_crossing (endsOf cs R) (start0 5 cs) := by
  rintro _ R ⟨a, b, bx, rfl, h, hR⟩
  simp -implicitDefEqProofs -dsimp [w_crossing]
  intro q
  refine ask_of (sp := sp_rests) ⟨a, bx, rfl, by have := h.la; omega, fun x hx => (h.pa x hx).1, ?_⟩
  (try simp -implicitDefEqProofs -dsimp)
  refine for_plain (restsF a bx) (fun (i : Nat) => PyData.int (i : Int)) rfl (fun rest δ => ∃ (c3 c4 : Cell) (done : List (Nat × Nat)), δ = [.d (prD a b), .d (tI bx), .ol q (done.map crD), c3, c4] ∧ done ++ (rest.flatMap fun i => ((restsF b bx).filter fun j => !decide (i = j)).map fun j => (i, j)) = crossF a b bx ∧ done.length + rest.length * 10 ≤ 100) ⟨_, _, [], rfl, rfl, ?_⟩ ?_ ?_
  · have := rests_len a bx
    have := h.l1
    simp; omega
  · rintro δ ⟨c3, c4, done, rfl, hd, _⟩
    have e : done = crossF a b bx := by simpa using hd
    subst e
    (try simp -implicitDefEqProofs -dsimp)
    exact hR
  · rintro i rest δ ⟨c3, c4, done, rfl, hd, hl⟩ K B T hK
    simp -implicitDefEqProofs -dsimp [w_crossing_1]
    refine ⟨⟨q, _, rfl⟩, ask_of (sp := sp_rests) ⟨b, bx, rfl, by have := h.lb; omega, fun x hx => (h.pb x hx).1, ?_⟩⟩
    (try simp -implicitDefEqProofs -dsimp)
    refine com_map (restsF b bx) (fun (j : Nat) => PyData.int (j : Int)) rfl (fun j => if (!decide (i = j)) = true then some (crD (i, j)) else none) (fun j hj acc K hK => ?_) ?_
    · (try simp -implicitDefEqProofs -dsimp)
      by_cases z : i = j
      · subst z
        simpa using hK
      · have z' : ¬ ((i : Int) = (j : Int)) := fun e => z (by omega)
        simp [z']
        simpa [z, crD] using hK
    · rw [fm_map]
      (try simp -implicitDefEqProofs -dsimp)
      have e : List.map (fun j => crD (i, j)) (List.filter (fun a => !decide (i = a)) (restsF b bx)) = (((restsF b bx).filter fun j => !decide (i = j)).map fun j => (i, j)).map crD := by
        rw [List.map_map]; simp [Function.comp_def]
      have l1 := Nat.le_trans (List.length_filter_le (fun j => !decide (i = j)) (restsF b bx)) (rests_len b bx)
      have l2 := h.l1
      simp only [List.length_cons] at hl
      refine ⟨?_, ?_⟩
      · omega
      · rw [e, ← List.map_append]
        refine hK _ ⟨_, _, done ++ _, rfl, ?_, ?_⟩
        · rw [← hd, List.flatMap_cons, List.append_assoc]
        · rw [List.length_append, List.length_map]; omega
theorem shaped_cr (ps : List (Nat × Nat)) : SeqAt.shaped (.list (ps.map crD)) = true := by
  have h1 : PyData.canLayAll0 (ps.map crD) = true := all_of (P := PyData.canLay0) (by simp [PyData.canLayAll0]) (by intros; simp [PyData.canLayAll0]) _ fun x hx => by
    obtain ⟨p, _, rfl⟩ := List.mem_map.mp hx
    simp [crD, PyData.canLay0, PyData.canLayAll0]
    decide +kernel
  have h2 : PyData.depthAll (ps.map crD) ≤ 1 := depthAll_le _ fun x hx => by
    obtain ⟨p, _, rfl⟩ := List.mem_map.mp hx
    simp [crD, PyData.depth, PyData.depthAll]
  simp [SeqAt.shaped, PyData.canLay0, PyData.depth, h1]
  omega
theorem eqv_cr (ps : List (Nat × Nat)) : PyData.eqvAll (ps.map crD) [] = ps.isEmpty := by
  cases ps <;> simp [PyData.eqvAll]
theorem rd_paper_t2 {a b bx : List Int} {R : PyData → List Cell → Prop} {c2 c3 c4 c5 c6 : Cell} (h : PB a b bx) (na : restsF a bx ≠ []) (nb : restsF b bx ≠ []) (nc : crossF a b bx = []) (hR : R (paperF a b bx) [.d (prD a b), .d (tI bx)]) :
    w_paper_t2 (endsOf [.d (prD a b), .d (tI bx)] R) [.d (prD a b), .d (tI bx), c2, c3, c4, c5, c6] := by
  obtain ⟨ax, rest, hr⟩ : ∃ ax rest, restsF a bx = ax :: rest := by
    cases hh : restsF a bx with
    | nil => exact absurd hh na
    | cons x xs => exact ⟨x, xs, rfl⟩
  have hax : ax < bx.length := (mem_rests.mp (by rw [hr]; exact List.mem_cons_self ..)).1
  obtain ⟨ea, eb, ex, qa, qb, qx⟩ := h.at hax
  unfold paperF at hR
  rw [if_neg na, if_neg nb, nc, hr] at hR
  simp -implicitDefEqProofs -dsimp [w_paper_t2]
  refine ask_of (sp := sp_rests) ⟨a, bx, rfl, by have := h.la; omega, fun x hx => (h.pa x hx).1, ?_⟩
  simp -implicitDefEqProofs -dsimp [hr]
  refine ask_of (sp := sp_bar_along) ⟨a, b, bx, ax, rfl, h, hax, ?_⟩
  have hR2 : R (match barD a b bx ax with
      | PyData.none => PyData.tuple [PyData.str "cut", PyData.int 0, PyData.int (ax : Int), PyData.int (gi a ax * (timesF (gi a ax) (gi b ax) (gi bx ax)).getD 0)]
      | d => d) [Cell.d (prD a b), Cell.d (tI bx)] := hR
  unfold barD barF at hR2 ⊢
  cases ht : timesF (gi a ax) (gi b ax) (gi bx ax) with
  | none =>
    simp only [ht] at hR2
    (try simp -implicitDefEqProofs -dsimp)
    exact hR2
  | some t =>
    simp only [ht] at hR2
    have x0 := qx.1
    have B := BIG_ge
    have a0 := qa.1
    have a1 := qa.2
    obtain ⟨t0, t1⟩ := times_big qa qb ht
    by_cases z : gi a ax * t - gi bx ax > 0
    · simp only [if_pos z] at hR2 ⊢
      (try simp -implicitDefEqProofs -dsimp)
      exact hR2
    · simp only [if_neg z] at hR2 ⊢
      simp -implicitDefEqProofs -dsimp [w_paper_t1, ea, eb, ex]
      refine ask_of (sp := sp_least_times) ⟨_, _, _, rfl, qa, qb, by omega, qx.2, ?_⟩
      simp -implicitDefEqProofs -dsimp [ht]
      exact ⟨mul_big (by omega) (by omega) (by omega) (by omega), by simpa using hR2⟩
theorem rd_paper_t3 {a b bx : List Int} {R : PyData → List Cell → Prop} {c2 c3 c4 c5 c6 : Cell} (h : PB a b bx) (na : restsF a bx ≠ []) (nb : restsF b bx ≠ []) (hR : R (paperF a b bx) [.d (prD a b), .d (tI bx)]) :
    w_paper_t3 (endsOf [.d (prD a b), .d (tI bx)] R) [.d (prD a b), .d (tI bx), c2, c3, c4, c5, c6] := by
  simp -implicitDefEqProofs -dsimp [w_paper_t3]
  refine ask_of (sp := sp_crossing) ⟨a, b, bx, rfl, h, ?_⟩
  simp -implicitDefEqProofs -dsimp [shaped_cr, eqv_cr, shaped_nil]
  split
  · rename_i z
    exact rd_paper_t2 h na nb z hR
  · rename_i z
    cases hc : crossF a b bx with
    | nil => exact absurd hc z
    | cons p ps =>
      unfold paperF at hR
      rw [if_neg na, if_neg nb, hc] at hR
      (try simp -implicitDefEqProofs -dsimp)
      exact hR
theorem rd_paper_4 {E : DEnds} {kind : Int} {br bx : List Int} {pr : PyData} {c4 c5 c6 : Cell} (hl : br.length = bx.length) (h0 : 0 < bx.length) (hb : ∀ x ∈ br, Pos x)
    (k0 : restsF br bx = [] → E.rt (.tuple [.str "cut", .int kind, .int 0, .int (gi bx 0)]) [.d pr, .d (tI bx), .d (.int kind), .d (tI br), c4, c5, c6])
    (k1 : restsF br bx ≠ [] → E.nx [.d pr, .d (tI bx), .d (.int kind), .d (tI br), c4, c5, c6]) :
    w_paper_4 E [.d pr, .d (tI bx), .d (.int kind), .d (tI br), c4, c5, c6] := by
  simp -implicitDefEqProofs -dsimp [w_paper_4]
  refine ask_of (sp := sp_rests) ⟨br, bx, rfl, by omega, fun x hx => (hb x hx).1, ?_⟩
  simp -implicitDefEqProofs -dsimp [shaped_nats, eqv_nats, shaped_nil]
  split
  · rename_i z
    have q := k0 z
    simp -implicitDefEqProofs -dsimp [w_paper_3, gi_at h0]
    exact q
  · rename_i z
    exact k1 z
theorem rd_paper_for {E : DEnds} {a b bx : List Int} {c2 c3 c4 c5 c6 : Cell} {u : Stop E} (h : PB a b bx)
    (k0 : restsF a bx = [] → ∀ c2 c3, E.rt (.tuple [.str "cut", .int 0, .int 0, .int (gi bx 0)]) [.d (prD a b), .d (tI bx), c2, c3, c4, c5, c6])
    (k1 : restsF a bx ≠ [] → restsF b bx = [] → ∀ c2 c3, E.rt (.tuple [.str "cut", .int 1, .int 0, .int (gi bx 0)]) [.d (prD a b), .d (tI bx), c2, c3, c4, c5, c6])
    (k2 : restsF a bx ≠ [] → restsF b bx ≠ [] → ∀ c2 c3, E.nx [.d (prD a b), .d (tI bx), c2, c3, c4, c5, c6]) :
    forC (gT (gsCons (gN 2) (gsCons (gN 3) gsNil))) w_paper_4 [.tuple [.int 0, tI a], .tuple [.int 1, tI b]] [.d (prD a b), .d (tI bx), c2, c3, c4, c5, c6] E u := by
  refine rd_paper_4 (kind := 0) h.la h.l0 h.pa (fun z => k0 z _ _) fun z => ?_
  exact rd_paper_4 (kind := 1) h.lb h.l0 h.pb (fun z2 => k1 z z2 _ _) fun z2 => k2 z z2 _ _
theorem rd_paper : ∀ cs R, sp_paper cs R → w_paper (endsOf cs R) (start0 7 cs) := by
  rintro _ R ⟨a, b, bx, rfl, h, hR⟩
  simp -implicitDefEqProofs -dsimp [w_paper, DL.numbered]
  refine rd_paper_for h (fun z c2 c3 => ?_) (fun na z c2 c3 => ?_) fun na nb c2 c3 => ?_
  · unfold paperF at hR
    rw [if_pos z] at hR
    exact ⟨trivial, hR⟩
  · unfold paperF at hR
    rw [if_neg na, if_pos z] at hR
    exact ⟨trivial, hR⟩
  · exact rd_paper_t3 h na nb hR
theorem bar_shape (a b bx : List Int) (ax : Nat) : barD a b bx ax = .none ∨ (∃ rest, barD a b bx ax = .tuple (.str "step" :: rest)) ∨ ∃ rest, barD a b bx ax = .tuple (.str "gap" :: rest) := by
  unfold barD barF
  split
  · exact .inr (.inl ⟨_, rfl⟩)
  · split
    · exact .inr (.inr ⟨_, rfl⟩)
    · exact .inl rfl
theorem bar_none {a b bx : List Int} {ax : Nat} : barD a b bx ax = .none ↔ isSum (gi a ax) (gi b ax) (gi bx ax) = true := by
  unfold barD barF isSum
  cases h : timesF (gi a ax) (gi b ax) (gi bx ax) with
  | none => simp
  | some t =>
    simp only [decide_eq_true_eq]
    by_cases c : gi a ax * t - gi bx ax > 0
    · rw [if_pos c]; simp; omega
    · rw [if_neg c]; simp; omega
theorem cross_nil {a b bx : List Int} (ha : restsF a bx ≠ []) (hb : restsF b bx ≠ []) : crossF a b bx = [] ↔ restsF a bx = restsF b bx ∧ (restsF a bx).length = 1 := by
  have na := rests_nodup a bx
  have nb := rests_nodup b bx
  unfold crossF
  revert ha hb na nb
  generalize restsF a bx = l
  generalize restsF b bx = m
  intro ha hb na nb
  constructor
  · intro h
    have e : ∀ i ∈ l, ∀ j ∈ m, i = j := fun i hi j hj => by
      have := (List.flatMap_eq_nil_iff.mp h) i hi
      rw [List.map_eq_nil_iff, List.filter_eq_nil_iff] at this
      have := this j hj
      simpa using this
    cases l with
    | nil => exact absurd rfl ha
    | cons i l =>
      cases m with
      | nil => exact absurd rfl hb
      | cons j m =>
        have hl : l = [] := by
          cases l with
          | nil => rfl
          | cons k l =>
            have h1 := e i (by simp) j (by simp)
            have h2 := e k (by simp) j (by simp)
            simp at na; omega
        have hm : m = [] := by
          cases m with
          | nil => rfl
          | cons k m =>
            have h1 := e i (by simp) j (by simp)
            have h2 := e i (by simp) k (by simp)
            simp at nb; omega
        subst hl hm
        have := e i (by simp) j (by simp)
        subst this
        exact ⟨rfl, rfl⟩
  · rintro ⟨rfl, h⟩
    cases l with
    | nil => cases h
    | cons i l =>
      cases l with
      | nil => simp
      | cons _ _ => simp at h
theorem paper_fill (a b bx : List Int) : ∃ x rest, paperF a b bx = .tuple (.str x :: rest) ∧ decide (x = ("cut" : Str)) = fillB a b bx := by
  unfold paperF fillB
  by_cases ha : restsF a bx = []
  · rw [if_pos ha, ha]; exact ⟨_, _, rfl, by simp⟩
  rw [if_neg ha]
  by_cases hb : restsF b bx = []
  · rw [if_pos hb, hb]; exact ⟨_, _, rfl, by simp⟩
  rw [if_neg hb]
  have ea : (restsF a bx).isEmpty = false := by simpa using ha
  have eb : (restsF b bx).isEmpty = false := by simpa using hb
  rw [ea, eb]
  cases hc : crossF a b bx with
  | cons p ps =>
    have : ¬ (restsF a bx = restsF b bx ∧ (restsF a bx).length = 1) := fun h => by rw [← cross_nil ha hb, hc] at h; cases h
    refine ⟨_, _, rfl, ?_⟩
    have e : (decide (restsF a bx = restsF b bx) && decide ((restsF a bx).length = 1)) = false := by
      rw [Bool.and_eq_false_iff]
      simp only [decide_eq_false_iff_not]
      exact Classical.not_and_iff_not_or_not.mp this
    rw [e]; simp; decide +kernel
  | nil =>
    obtain ⟨h1, h2⟩ := (cross_nil ha hb).mp hc
    simp only [h1, h2, decide_true, Bool.true_and, Bool.false_or]
    rw [← h1]
    simp only [h2, decide_true, Bool.true_and]
    generalize (restsF a bx).headD 0 = ax
    by_cases hs : isSum (gi a ax) (gi b ax) (gi bx ax) = true
    · have := bar_none.mpr hs
      simp only [this]
      exact ⟨_, _, rfl, by simp [hs]⟩
    · have e : isSum (gi a ax) (gi b ax) (gi bx ax) = false := by simpa using hs
      rw [e]
      rcases bar_shape a b bx ax with h | ⟨rest, h⟩ | ⟨rest, h⟩
      · exact absurd (bar_none.mp h) hs
      · simp only [h]; exact ⟨_, _, rfl, by decide⟩
      · simp only [h]; exact ⟨_, _, rfl, by decide⟩
theorem rd_is_filled : ∀ cs R, sp_is_filled cs R → w_is_filled (endsOf cs R) (start0 2 cs) := by
  rintro _ R ⟨a, b, bx, rfl, h, hR⟩
  simp -implicitDefEqProofs -dsimp [w_is_filled]
  refine ask_of (sp := sp_paper) ⟨a, b, bx, rfl, h, ?_⟩
  obtain ⟨x, rest, e, e2⟩ := paper_fill a b bx
  rw [e]
  rw [← e2] at hR
  (try simp -implicitDefEqProofs -dsimp)
  exact hR
end TW
set_option Elab.async false
set_option linter.all false
set_option maxRecDepth 100000
set_option maxHeartbeats 4000000
namespace TW
open PySem PySem.Spec PyProof.Rows L2 DL
abbrev sp_Ldeck : DSpM := spDeck
abbrev sp_Ldraw : DSp := spDraw
def In (m : Int) (ns : List Int) : Prop := ∀ x ∈ ns, 1 ≤ x ∧ x ≤ m
def sp_Lone : DSp := fun cs R => ∃ a b c d xs, cs = [.dk a b c, .d d] ∧ seqOf d = some xs ∧ 0 < xs.length ∧ xs.length ≤ 1000000 ∧ ∀ x ∈ xs, R x [.dk a b c, .d d]
def sp_Lsides : DSp := fun cs R => ∃ a b c n m, cs = [.dk a b c, .d (.int n), .d (.int m)] ∧ 0 ≤ n ∧ n ≤ 1000 ∧ 0 < m ∧ m < 2 ^ 64 ∧ ∀ ns : List Int, ns.length = n.toNat → In m ns → R (tI ns) [.dk a b c, .d (.int n), .d (.int m)]
def sp_Lpair : DSp := fun cs R => ∃ a b c n m, cs = [.dk a b c, .d (.int n), .d (.int m)] ∧ 1 ≤ n ∧ n ≤ 1000 ∧ 0 < m ∧ m < 2 ^ 64 ∧ ∀ p q : List Int, p.length = n.toNat → q.length = n.toNat → In m p → In m q → R (prD p q) [.dk a b c, .d (.int n), .d (.int m)]
def lcmI (a b : Int) : Int := a * b / gcdI a b
def sp_Llcm : DSp := fun cs R => ∃ a b, cs = [.d (.int a), .d (.int b)] ∧ Pos a ∧ Pos b ∧ R (.int (lcmI a b)) cs
def IsCutBox (p q ns : List Int) (m : Int) : Prop := ns.length = p.length ∧ ∃ ax x y, ax < p.length ∧ 0 ≤ x ∧ x < m ∧ 1 ≤ y ∧ y ≤ m ∧ ∀ i, i < p.length → gi ns i = if i = ax then gi p i * x + gi q i * y else lcmI (gi p i) (gi q i)
def IsPlainBox (p ns : List Int) (m : Int) : Prop := ns.length = p.length ∧ ∀ i, i < p.length → ∃ k, 1 ≤ k ∧ k ≤ m ∧ gi ns i = gi p i * k
structure Pr (p q : List Int) : Prop where
  l : q.length = p.length
  l0 : 0 < p.length
  l1 : p.length ≤ 10
  p : ∀ x ∈ p, 1 ≤ x ∧ x < 2 ^ 60
  q : ∀ x ∈ q, 1 ≤ x ∧ x < 2 ^ 60
def sp_Lcut_box : DSp := fun cs R => ∃ a b c p q m, cs = [.dk a b c, .d (prD p q), .d (.int m)] ∧ Pr p q ∧ 0 < m ∧ m < 2 ^ 60 ∧ ∀ ns : List Int, IsCutBox p q ns m → R (tI ns) [.dk a b c, .d (prD p q), .d (.int m)]
def sp_Lplain_box : DSp := fun cs R => ∃ a b c p q m, cs = [.dk a b c, .d (prD p q), .d (.int m)] ∧ Pr p q ∧ 0 < m ∧ m < 2 ^ 60 ∧ ∀ ns : List Int, (IsPlainBox p ns m ∨ IsPlainBox q ns m) → R (tI ns) [.dk a b c, .d (prD p q), .d (.int m)]
def sp_Lrests : DSp := fun cs R => ∃ br bx : List Int, cs = [.d (tI br), .d (tI bx)] ∧ bx.length ≤ br.length ∧ bx.length ≤ 1000000 ∧ (∀ x ∈ br, 1 ≤ x) ∧ R (.list (lN (restsF br bx))) cs
def vol (ns : List Int) : Int := ns.foldl (fun a b => a * b) 1
def sp_Lis_sum : DSp := fun cs R => ∃ s a b : Int, cs = [.d (.int s), .d (.int a), .d (.int b)] ∧ 0 ≤ s ∧ s < 2 ^ 60 ∧ 1 ≤ a ∧ a < 2 ^ 60 ∧ 1 ≤ b ∧ s / a < 999999 ∧ R (.bool (isSum a b s)) cs
def sp_Lis_filled : DSp := fun cs R => ∃ a b bx, cs = [.d (prD a b), .d (tI bx)] ∧ a.length = bx.length ∧ b.length = bx.length ∧ bx.length ≤ 1000 ∧ (∀ x ∈ a, 1 ≤ x ∧ x < 2 ^ 60) ∧ (∀ x ∈ b, 1 ≤ x) ∧ (∀ i, i < bx.length → 0 ≤ gi bx i ∧ gi bx i < 2 ^ 60 ∧ gi bx i / gi a i < 999999) ∧ R (.bool (fillB a b bx)) cs
def w_Lsides : DTS := (wRet (wFn pTupOf (wCons (wOfL (wComp (iRange1 (wCons (wVar 1) wNil)) (gN 3) tT (wOp pAddB (wC (.int 1)) (wCall [true, false] sp_Ldraw (wCons (wVar 0) (wCons (wVar 2) wNil)))) [3])) wNil)))
def w_Lpair_s1 : DTS := (wSet 4 (mE (wOp pAddB (wOp pAddB (wSl pSl (wVar 3) wNoP (wPart (wVar 5))) (wTup (wCons (wOp pAddB (wC (.int 1)) (wCall [true, false] sp_Ldraw (wCons (wVar 0) (wCons (wVar 2) wNil)))) wNil))) (wSl pSl (wVar 3) (wPart (wOp pAddB (wVar 5) (wC (.int 1)))) wNoP))))
@[simp ↓] theorem w_Lpair_s1_ap (E : DEnds) (δ : DS) : w_Lpair_s1 E δ = (wSet 4 (mE (wOp pAddB (wOp pAddB (wSl pSl (wVar 3) wNoP (wPart (wVar 5))) (wTup (wCons (wOp pAddB (wC (.int 1)) (wCall [true, false] sp_Ldraw (wCons (wVar 0) (wCons (wVar 2) wNil)))) wNil))) (wSl pSl (wVar 3) (wPart (wOp pAddB (wVar 5) (wC (.int 1)))) wNoP)))) E δ := rfl
def w_Lpair_1 : DTS := (wSeq (wSet 5 (mE (wCall [true, false] sp_Ldraw (wCons (wVar 0) (wCons (wVar 1) wNil))))) w_Lpair_s1)
def w_Lpair_t1 : DTS := (wRet (wTup (wCons (wVar 3) (wCons (wVar 4) wNil))))
def w_Lpair_s2 : DTS := (wSeq (wIf (wB (wOp pEq (wCall [true, false] sp_Ldraw (wCons (wVar 0) (wCons (wC (.int 3)) wNil))) (wC (.int 0)))) w_Lpair_1 wNext) w_Lpair_t1)
@[simp ↓] theorem w_Lpair_s2_ap (E : DEnds) (δ : DS) : w_Lpair_s2 E δ = (wSeq (wIf (wB (wOp pEq (wCall [true, false] sp_Ldraw (wCons (wVar 0) (wCons (wC (.int 3)) wNil))) (wC (.int 0)))) w_Lpair_1 wNext) w_Lpair_t1) E δ := rfl
def w_Lpair : DTS := (wSeq (wPar2 3 4 (msCons (mE (wCall [true, false, false] sp_Lsides (wCons (wVar 0) (wCons (wVar 1) (wCons (wVar 2) wNil))))) (msCons (mE (wCall [true, false, false] sp_Lsides (wCons (wVar 0) (wCons (wVar 1) (wCons (wVar 2) wNil))))) msNil))) w_Lpair_s2)
def w_Lis_sum : DTS := (wRet (wOp pNe (wOfL (wComp (iRange1 (wCons (wOp pAddB (wOp pDiv (wVar 0) (wVar 1)) (wC (.int 1))) wNil)) (gN 3) (wB (wOp pEq (wOp pMod (wFn pInt (wCons (wOp pSubB (wVar 0) (wOp pMulT (wVar 3) (wVar 1))) wNil)) (wVar 2)) (wC (.int 0)))) (wVar 3) [3])) (wOfL (wLst wNil))))
def w_Lrests : DTS := (wRet (wOfL (wComp (iRange1 (wCons (wFn pLen (wCons (wVar 1) wNil)) wNil)) (gN 2) (wB (wOp pNe (wOp pMod (wFn pInt (wCons (wOp pIx (wVar 1) (wVar 2)) wNil)) (wOp pIx (wVar 0) (wVar 2))) (wC (.int 0)))) (wVar 2) [2])))
def w_Lis_filled_t1 : DTS := (wRet (wCall [] sp_Lis_sum (wCons (wOp pIx (wVar 1) (wOp pIx (wVar 2) (wC (.int 0)))) (wCons (wOp pIx (wOp pIx (wVar 0) (wC (.int 0))) (wOp pIx (wVar 2) (wC (.int 0)))) (wCons (wOp pIx (wOp pIx (wVar 0) (wC (.int 1))) (wOp pIx (wVar 2) (wC (.int 0)))) wNil)))))
def w_Lis_filled_t2 : DTS := (wSeq (wIf (wOr (wB (wOp pGt (wFn pLen (wCons (wVar 2) wNil)) (wC (.int 1)))) (wB (wOp pNe (wVar 2) (wVar 3)))) (wRet (wC (.bool false))) wNext) w_Lis_filled_t1)
def w_Lis_filled_s1 : DTS := (wSeq (wIf (wOr (wB (wOp pEq (wVar 2) (wOfL (wLst wNil)))) (wB (wOp pEq (wVar 3) (wOfL (wLst wNil))))) (wRet (wC (.bool true))) wNext) w_Lis_filled_t2)
@[simp ↓] theorem w_Lis_filled_s1_ap (E : DEnds) (δ : DS) : w_Lis_filled_s1 E δ = (wSeq (wIf (wOr (wB (wOp pEq (wVar 2) (wOfL (wLst wNil)))) (wB (wOp pEq (wVar 3) (wOfL (wLst wNil))))) (wRet (wC (.bool true))) wNext) w_Lis_filled_t2) E δ := rfl
def w_Lis_filled : DTS := (wSeq (wPar2 2 3 (msCons (mE (wCall [] sp_Lrests (wCons (wOp pIx (wVar 0) (wC (.int 0))) (wCons (wVar 1) wNil)))) (msCons (mE (wCall [] sp_Lrests (wCons (wOp pIx (wVar 0) (wC (.int 1))) (wCons (wVar 1) wNil)))) msNil))) w_Lis_filled_s1)
def w_Lone : DTS := (wRet (wOp pIx (wVar 1) (wCall [true, false] sp_Ldraw (wCons (wVar 0) (wCons (wFn pLen (wCons (wVar 1) wNil)) wNil)))))
def w_Llcm : DTS := (wRet (wOp pDiv (wOp pMulT (wVar 0) (wVar 1)) (wCall [] sp_common (wCons (wVar 0) (wCons (wVar 1) wNil)))))
def w_Lcut_box_s1 : DTS := (wRet (wFn pTupOf (wCons (wVar 4) wNil)))
@[simp ↓] theorem w_Lcut_box_s1_ap (E : DEnds) (δ : DS) : w_Lcut_box_s1 E δ = (wRet (wFn pTupOf (wCons (wVar 4) wNil))) E δ := rfl
def w_Lcut_box_1 : DTS := (wAppend 4 (wCall [] sp_Llcm (wCons (wOp pIx (wOp pIx (wVar 1) (wC (.int 0))) (wVar 5)) (wCons (wOp pIx (wOp pIx (wVar 1) (wC (.int 1))) (wVar 5)) wNil))))
def w_Lcut_box_t1 : DTS := (wSeq (wPut 4 (wOp pAddB (wOp pMulT (wOp pIx (wOp pIx (wVar 1) (wC (.int 0))) (wVar 3)) (wCall [true, false] sp_Ldraw (wCons (wVar 0) (wCons (wVar 2) wNil)))) (wOp pMulT (wOp pIx (wOp pIx (wVar 1) (wC (.int 1))) (wVar 3)) (wOp pAddB (wC (.int 1)) (wCall [true, false] sp_Ldraw (wCons (wVar 0) (wCons (wVar 2) wNil)))))) (wVar 3)) w_Lcut_box_s1)
def w_Lcut_box_s2 : DTS := (wSeq (wFor (iRange1 (wCons (wFn pLen (wCons (wOp pIx (wVar 1) (wC (.int 0))) wNil)) wNil)) (gN 5) w_Lcut_box_1) w_Lcut_box_t1)
@[simp ↓] theorem w_Lcut_box_s2_ap (E : DEnds) (δ : DS) : w_Lcut_box_s2 E δ = (wSeq (wFor (iRange1 (wCons (wFn pLen (wCons (wOp pIx (wVar 1) (wC (.int 0))) wNil)) wNil)) (gN 5) w_Lcut_box_1) w_Lcut_box_t1) E δ := rfl
def w_Lcut_box : DTS := (wSeq (wPar2 3 4 (msCons (mE (wCall [true, false] sp_Ldraw (wCons (wVar 0) (wCons (wFn pLen (wCons (wOp pIx (wVar 1) (wC (.int 0))) wNil)) wNil)))) (msCons (mL (wLst wNil)) msNil))) w_Lcut_box_s2)
def w_Lplain_box_s1 : DTS := (wRet (wFn pTupOf (wCons (wOfL (wComp (iSeq (wVar 3)) (gN 4) tT (wOp pMulT (wVar 4) (wOp pAddB (wC (.int 1)) (wCall [true, false] sp_Ldraw (wCons (wVar 0) (wCons (wVar 2) wNil))))) [4])) wNil)))
@[simp ↓] theorem w_Lplain_box_s1_ap (E : DEnds) (δ : DS) : w_Lplain_box_s1 E δ = (wRet (wFn pTupOf (wCons (wOfL (wComp (iSeq (wVar 3)) (gN 4) tT (wOp pMulT (wVar 4) (wOp pAddB (wC (.int 1)) (wCall [true, false] sp_Ldraw (wCons (wVar 0) (wCons (wVar 2) wNil))))) [4])) wNil))) E δ := rfl
def w_Lplain_box : DTS := (wSeq (wSet 3 (mE (wCall [true, false] sp_Lone (wCons (wVar 0) (wCons (wOfL (wFnL pLstOf (wCons (wVar 1) wNil))) wNil))))) w_Lplain_box_s1)
theorem ln_Lsides : ∀ cs R, sp_Lsides cs R → cs.length = 3 := by
  intro cs R h
  unfold sp_Lsides at h
  repeat (obtain ⟨_, h⟩ := h)
  subst_vars; rfl
theorem ln_Lpair : ∀ cs R, sp_Lpair cs R → cs.length = 3 := by
  intro cs R h
  unfold sp_Lpair at h
  repeat (obtain ⟨_, h⟩ := h)
  subst_vars; rfl
theorem ln_Lis_sum : ∀ cs R, sp_Lis_sum cs R → cs.length = 3 := by
  intro cs R h
  unfold sp_Lis_sum at h
  repeat (obtain ⟨_, h⟩ := h)
  subst_vars; rfl
theorem ln_Lrests : ∀ cs R, sp_Lrests cs R → cs.length = 2 := by
  intro cs R h
  unfold sp_Lrests at h
  repeat (obtain ⟨_, h⟩ := h)
  subst_vars; rfl
theorem ln_Lis_filled : ∀ cs R, sp_Lis_filled cs R → cs.length = 2 := by
  intro cs R h
  unfold sp_Lis_filled at h
  repeat (obtain ⟨_, h⟩ := h)
  subst_vars; rfl
theorem ln_Lone : ∀ cs R, sp_Lone cs R → cs.length = 2 := by
  intro cs R h
  unfold sp_Lone at h
  repeat (obtain ⟨_, h⟩ := h)
  subst_vars; rfl
theorem ln_Llcm : ∀ cs R, sp_Llcm cs R → cs.length = 2 := by
  intro cs R h
  unfold sp_Llcm at h
  repeat (obtain ⟨_, h⟩ := h)
  subst_vars; rfl
theorem ln_Lcut_box : ∀ cs R, sp_Lcut_box cs R → cs.length = 3 := by
  intro cs R h
  unfold sp_Lcut_box at h
  repeat (obtain ⟨_, h⟩ := h)
  subst_vars; rfl
theorem ln_Lplain_box : ∀ cs R, sp_Lplain_box cs R → cs.length = 3 := by
  intro cs R h
  unfold sp_Lplain_box at h
  repeat (obtain ⟨_, h⟩ := h)
  subst_vars; rfl
end TW
set_option Elab.async false
set_option linter.all false
set_option maxRecDepth 100000
set_option maxHeartbeats 4000000
namespace TW
open PySem PySem.Spec PyProof.Rows L2 DL
theorem rd_Lone : ∀ cs R, sp_Lone cs R → w_Lone (endsOf cs R) (start0 2 cs) := by
  rintro _ R ⟨a, b, c, d, xs, rfl, hd, h0, h1, hR⟩
  cases d with
  | list ds =>
    cases hd
    simp -implicitDefEqProofs -dsimp [w_Lone]
    refine ask_draw (by omega) (by omega) fun r q0 q1 => ?_
    (try simp -implicitDefEqProofs -dsimp)
    obtain ⟨z, hz, e⟩ := atI_ex (xs := xs) q0 q1
    exact onS_of e (by simp -implicitDefEqProofs -dsimp; exact hR z hz)
  | tuple ds =>
    cases hd
    simp -implicitDefEqProofs -dsimp [w_Lone]
    refine ask_draw (by omega) (by omega) fun r q0 q1 => ?_
    (try simp -implicitDefEqProofs -dsimp)
    obtain ⟨z, hz, e⟩ := atI_ex (xs := xs) q0 q1
    exact onS_of e (by simp -implicitDefEqProofs -dsimp; exact hR z hz)
  | _ => cases hd
theorem rd_Lsides : ∀ cs R, sp_Lsides cs R → w_Lsides (endsOf cs R) (start0 4 cs) := by
  rintro _ R ⟨a, b, c, n, m, rfl, h0, h1, h2, h3, hR⟩
  simp -implicitDefEqProofs -dsimp [w_Lsides]
  refine ⟨by omega, by omega, ?_⟩
  refine com_ints (fun i => 1 ≤ i ∧ i ≤ m) (fun x hx acc K hK => ?_) fun ns hl hn => ?_
  · (try simp -implicitDefEqProofs -dsimp)
    refine ask_draw h2 (by omega) fun r q0 q1 => ?_
    (try simp -implicitDefEqProofs -dsimp)
    exact hK _ ⟨by omega, by omega⟩
  · (try simp -implicitDefEqProofs -dsimp)
    exact hR ns (by simpa [nums] using hl) hn
theorem cutD_drop {α : Type} (xs : List α) (n : Nat) : cutD xs (some (n : Int)) none = xs.drop n := by
  unfold DL.cutD
  rw [HT.sIx_none, HT.sIx_nat]
  by_cases h : n ≤ xs.length
  · rw [Nat.min_eq_left h, List.take_of_length_le (by simp)]
  · rw [Nat.min_eq_right (by omega), List.drop_of_length_le (show xs.length ≤ xs.length by omega), List.drop_of_length_le (by omega)]; simp
theorem cutD_drop1 {α : Type} (xs : List α) (n : Nat) : cutD xs (some ((n : Int) + 1)) none = xs.drop (n + 1) := cutD_drop xs (n + 1)
theorem put_at {α : Type} {xs : List α} {n : Nat} {y : α} (h : n < xs.length) : xs.take n ++ (y :: xs.drop (n + 1)) = xs.set n y := by
  rw [List.set_eq_take_append_cons_drop, if_pos h]
theorem cut_put {xs : List PyData} {n : Nat} {y : PyData} (h : n < xs.length) : cutD xs none (some (n : Int)) ++ [y] ++ cutD xs (some ((n : Int) + 1)) none = xs.set n y := by
  rw [cutD_take, cutD_drop1, List.append_assoc, List.singleton_append, put_at h]
theorem In.set {m y : Int} {ns : List Int} {n : Nat} (h : In m ns) (h0 : 1 ≤ y) (h1 : y ≤ m) : In m (ns.set n y) := fun x hx => by
  rcases List.mem_or_eq_of_mem_set hx with q | q
  · exact h x q
  · subst q; exact ⟨h0, h1⟩
theorem rd_Lpair : ∀ cs R, sp_Lpair cs R → w_Lpair (endsOf cs R) (start0 6 cs) := by
  rintro _ R ⟨a, b, c, n, m, rfl, h0, h1, h2, h3, hR⟩
  simp -implicitDefEqProofs -dsimp [w_Lpair]
  refine ask_of ⟨a, b, c, n, m, rfl, by omega, by omega, h2, h3, fun p hp ip => ?_⟩
  (try simp -implicitDefEqProofs -dsimp)
  refine ask_of ⟨a, b, c, n, m, rfl, by omega, by omega, h2, h3, fun q hq iq => ?_⟩
  (try simp -implicitDefEqProofs -dsimp)
  refine ask_draw (by omega) (by omega) fun r q0 q1 => ?_
  (try simp -implicitDefEqProofs -dsimp)
  split
  · simp -implicitDefEqProofs -dsimp [w_Lpair_1]
    refine ask_draw (by omega) (by omega) fun t t0 t1 => ?_
    (try simp -implicitDefEqProofs -dsimp)
    refine ask_draw (by omega) (by omega) fun u u0 u1 => ?_
    obtain ⟨k, rfl⟩ : ∃ k : Nat, t = k := ⟨t.toNat, by omega⟩
    have e := cut_put (xs := lI p) (n := k) (y := .int (1 + u)) (by simp; omega)
    simp only [lI, List.append_assoc, List.singleton_append] at e
    simp -implicitDefEqProofs -dsimp [w_Lpair_t1, e]
    have l1 : (DL.cutD (lI p) none (some ↑k)).length ≤ 1000 := by rw [cutD_take]; simp; omega
    have l2 : (DL.cutD (lI p) (some (↑k + 1)) none).length ≤ 1000 := by rw [cutD_drop1]; simp; omega
    refine ⟨by omega, by omega, ?_⟩
    rw [← List.map_set]
    exact hR p (p.set k (1 + u)) hp (by simpa using hp) ip (ip.set (by omega) (by omega))
  · simp -implicitDefEqProofs -dsimp [w_Lpair_t1]
    exact hR p q hp hq ip iq
theorem lcm_pos {a b : Int} (ha : 1 ≤ a) (hb : 1 ≤ b) : 1 ≤ lcmI a b ∧ lcmI a b ≤ a * b ∧ a ∣ lcmI a b ∧ b ∣ lcmI a b := by
  obtain ⟨g0, g1⟩ := gcd_le (b := b) ha
  obtain ⟨a', ea⟩ := gcd_dvd_l a b
  obtain ⟨b', eb⟩ := gcd_dvd_r a b
  unfold lcmI
  have e1 : a * b / gcdI a b = a * b' := by
    conv => lhs; rw [show a * b = gcdI a b * (a * b') by rw [Int.mul_left_comm, ← eb]]
    exact Int.mul_ediv_cancel_left _ (by omega)
  have e2 : a * b / gcdI a b = b * a' := by
    conv => lhs; rw [show a * b = gcdI a b * (b * a') by rw [Int.mul_left_comm, ← ea, Int.mul_comm]]
    exact Int.mul_ediv_cancel_left _ (by omega)
  have p : 0 < b' := Int.pos_of_mul_pos_right (a := gcdI a b) (b := b') (by rw [← eb]; omega) (by omega)
  have q := Int.mul_le_mul_of_nonneg_left (show (1 : Int) ≤ b' by omega) (show 0 ≤ a by omega)
  have r : b' ≤ b := by
    have := Int.mul_le_mul_of_nonneg_right g0 (show 0 ≤ b' by omega)
    omega
  have s := Int.mul_le_mul_of_nonneg_left r (show 0 ≤ a by omega)
  refine ⟨by rw [e1]; omega, by rw [e1]; omega, ⟨b', e1⟩, ⟨a', e2⟩⟩
theorem rd_Llcm : ∀ cs R, sp_Llcm cs R → w_Llcm (endsOf cs R) (start0 2 cs) := by
  rintro _ R ⟨a, b, rfl, ⟨a0, a1⟩, ⟨b0, b1⟩, hR⟩
  obtain ⟨g0, g1⟩ := gcd_le (b := b) a0
  have B := BIG_ge
  simp -implicitDefEqProofs -dsimp [w_Llcm]
  refine ⟨mul_big (by omega) (by omega) (by omega) (by omega), ask_of ⟨a, b, rfl, by omega, by omega, ?_⟩⟩
  (try simp -implicitDefEqProofs -dsimp)
  exact ⟨div_big (by omega) (by omega), hR⟩
theorem Pr.at {p q : List Int} (h : Pr p q) {i : Nat} (hi : i < p.length) : p[i]? = some (gi p i) ∧ q[i]? = some (gi q i) ∧ (1 ≤ gi p i ∧ gi p i < 2 ^ 60) ∧ (1 ≤ gi q i ∧ gi q i < 2 ^ 60) :=
  have hj : i < q.length := by have := h.l; omega
  ⟨gi_at hi, gi_at hj, h.p _ (gi_mem hi), h.q _ (gi_mem hj)⟩
theorem pos60 {x : Int} (h : 1 ≤ x ∧ x < 2 ^ 60) : Pos x := Pos.of h.1 (by omega)
theorem gi_set {ns : List Int} {i k : Nat} {y : Int} (hi : i < ns.length) : gi (ns.set k y) i = if i = k then y else gi ns i := by
  unfold gi
  rw [List.getElem?_set]
  by_cases h : k = i
  · subst h; simp [hi]
  · rw [if_neg h, if_neg (fun e => h e.symm)]
theorem rd_Lcut_box : ∀ cs R, sp_Lcut_box cs R → w_Lcut_box (endsOf cs R) (start0 6 cs) := by
  rintro _ R ⟨a, b, c, p, q, m, rfl, h, h0, h1, hR⟩
  have l0 := h.l0
  have l1 := h.l1
  simp -implicitDefEqProofs -dsimp [w_Lcut_box]
  refine ask_draw (by omega) (by omega) fun t t0 t1 => ?_
  obtain ⟨ax, rfl⟩ : ∃ k : Nat, t = k := ⟨t.toNat, by omega⟩
  (try simp -implicitDefEqProofs -dsimp)
  intro fa
  refine ⟨by omega, ?_⟩
  rw [nums_0]
  refine for_plain (List.range p.length) _ rfl (fun rest δ => ∃ (c5 : Cell) (done : Nat), done + rest.length = p.length ∧ rest = (List.range' done (p.length - done)) ∧ δ = [.dk a b c, .d (prD p q), .d (.int m), .d (.int (ax : Nat)), .ol fa (lI ((List.range done).map fun i => lcmI (gi p i) (gi q i))), c5]) ⟨_, 0, by simp, by simp [List.range_eq_range'], rfl⟩ ?_ ?_
  · rintro δ ⟨c5, done, hd, _, rfl⟩
    have : done = p.length := by simpa using hd
    subst this
    obtain ⟨ep, eq, ip, iq⟩ := h.at (i := ax) (by omega)
    simp -implicitDefEqProofs -dsimp [w_Lcut_box_t1, ep, eq]
    refine ask_draw (by omega) (by omega) fun x x0 x1 => ?_
    simp -implicitDefEqProofs -dsimp [ep, eq]
    refine ⟨cm_l (by omega), ask_draw (by omega) (by omega) fun y y0 y1 => ?_⟩
    refine ⟨cm_l (by omega), ⟨fa, _, rfl⟩, ax, ?_, ?_⟩
    · rw [ixN_nn (by omega) (by simp; omega)]; simp
    · (try simp -implicitDefEqProofs -dsimp)
      have e : List.map (PyData.int ∘ fun i => lcmI (gi p i) (gi q i)) (List.range p.length) = lI ((List.range p.length).map fun i => lcmI (gi p i) (gi q i)) := by simp [lI]
      rw [e, ← List.map_set]
      refine hR _ ⟨by simp, ax, x, 1 + y, by omega, x0, x1, by omega, by omega, fun i hi => ?_⟩
      rw [gi_set (by simpa using hi)]
      by_cases z : i = ax
      · subst z; simp
      · rw [if_neg z, if_neg z, gi_range hi]
  · rintro i rest δ ⟨c5, done, hd, hr, rfl⟩ K B T hK
    have hlt : done < p.length := by simp at hd; omega
    rw [show p.length - done = (p.length - done - 1) + 1 by omega, List.range'_succ, List.cons.injEq] at hr
    obtain ⟨rfl, hr⟩ := hr
    obtain ⟨ep, eq, ip, iq⟩ := h.at hlt
    simp -implicitDefEqProofs -dsimp [w_Lcut_box_1, ep, eq]
    refine ⟨⟨fa, _, rfl⟩, ask_of ⟨_, _, rfl, pos60 ip, pos60 iq, ?_⟩⟩
    (try simp -implicitDefEqProofs -dsimp)
    have e : List.map (PyData.int ∘ fun i => lcmI (gi p i) (gi q i)) (List.range i) ++ [PyData.int (lcmI (gi p i) (gi q i))] = lI ((List.range (i + 1)).map fun i => lcmI (gi p i) (gi q i)) := by simp [List.range_succ]
    rw [e]
    exact ⟨by omega, hK _ ⟨_, i + 1, by simp at hd; omega, by rw [hr]; congr 1, rfl⟩⟩
theorem IsPlainBox.of {p ns : List Int} {m : Int} (hl : ns.length = p.length) (h : ∀ i, i < p.length → ∃ k, 1 ≤ k ∧ k ≤ m ∧ gi ns i = gi p i * k) : IsPlainBox p ns m := ⟨hl, h⟩
theorem com_gi {g : DTG} {t : DT} {e : DE} {vs : List Nat} {δ : DS} {xs : List Int} {R : List PyData → DS → Prop} {u : Stop R} (P : Int → Int → Prop)
    (hs : ∀ x ∈ xs, ∀ (acc : List PyData) (K : List PyData → DS → Prop), (∀ y, P x y → K (acc ++ [.int y]) δ) → g (.int x) δ fun δ1 => t δ1 fun b δ2 => if b = true then e δ2 fun o δ3 => lk o δ3 fun y δ4 => K (acc ++ [y]) (wipeD δ4 vs) else K acc (wipeD δ2 vs)) (k : ∀ ns : List Int, ns.length = xs.length → (∀ i, i < xs.length → P (gi xs i) (gi ns i)) → R (lI ns) δ) : comC g t e vs (lI xs) [] δ R u := by
  refine com_inv (fun ys acc δ' => δ' = δ ∧ ∃ (pre post ns : List Int), xs = pre ++ post ∧ ys = lI post ∧ acc = lI ns ∧ ns.length = pre.length ∧ ∀ i, i < pre.length → P (gi pre i) (gi ns i)) ⟨rfl, [], xs, [], rfl, rfl, rfl, rfl, by simp⟩ ?_ ?_
  · rintro acc δ' ⟨rfl, pre, post, ns, he, hy, rfl, hl, hp⟩
    have : post = [] := by
      cases post with
      | nil => rfl
      | cons => cases hy
    subst this
    have : pre = xs := by rw [he]; simp
    subst this
    exact k ns hl hp
  · rintro x ys acc δ' ⟨rfl, pre, post, ns, he, hy, rfl, hl, hp⟩ K hK
    cases post with
    | nil => cases hy
    | cons z post =>
      simp only [lI, List.map_cons, List.cons.injEq] at hy
      obtain ⟨rfl, rfl⟩ := hy
      refine hs z (by rw [he]; simp) _ K fun y py => hK _ _ ⟨rfl, pre ++ [z], post, ns ++ [y], by rw [he]; simp, rfl, by simp, by simp [hl], fun i hi => ?_⟩
      by_cases c : i < pre.length
      · have e1 : gi (pre ++ [z]) i = gi pre i := by unfold gi; rw [List.getElem?_append_left c]
        have e2 : gi (ns ++ [y]) i = gi ns i := by unfold gi; rw [List.getElem?_append_left (by omega)]
        rw [e1, e2]; exact hp i c
      · have : i = pre.length := by simp at hi; omega
        subst this
        have e1 : gi (pre ++ [z]) pre.length = z := by unfold gi; simp
        have e2 : gi (ns ++ [y]) pre.length = y := by unfold gi; rw [← hl]; simp
        rw [e1, e2]; exact py
theorem rd_Lplain_box : ∀ cs R, sp_Lplain_box cs R → w_Lplain_box (endsOf cs R) (start0 5 cs) := by
  rintro _ R ⟨a, b, c, p, q, m, rfl, h, h0, h1, hR⟩
  simp -implicitDefEqProofs -dsimp [w_Lplain_box]
  refine ask_of ⟨a, b, c, _, _, rfl, rfl, by simp, by simp, fun x hx => ?_⟩
  have main : ∀ br : List Int, (∀ x ∈ br, 1 ≤ x ∧ x < 2 ^ 60) → (∀ ns, IsPlainBox br ns m → R (tI ns) [.dk a b c, .d (prD p q), .d (.int m)]) →
      comC (gN 4) tT (wOp pMulT (wVar 4) (wOp pAdd (wC (.int 1)) (wCall [true, false] sp_Ldraw (wCons (wVar 0) (wCons (wVar 2) wNil))))) [4] (lI br) [] [.dk a b c, .d (prD p q), .d (.int m), .d (tI br), .em] (fun ys δ2 => (endsOf [.dk a b c, .d (prD p q), .d (.int m)] R).rt (.tuple ys) (backD [.dk a b c, .d (prD p q), .d (.int m), .d (tI br), .em] δ2 [4])) .mk := fun br hb hk => by
    refine com_gi (fun x y => ∃ k, 1 ≤ k ∧ k ≤ m ∧ y = x * k) (fun x hx acc K hK => ?_) fun ns hl hn => ?_
    · (try simp -implicitDefEqProofs -dsimp)
      refine ask_draw h0 (by omega) fun r q0 q1 => ?_
      (try simp -implicitDefEqProofs -dsimp)
      have := hb x hx
      exact ⟨cm_l (by omega), hK _ ⟨1 + r, by omega, by omega, rfl⟩⟩
    · (try simp -implicitDefEqProofs -dsimp)
      exact hk ns ⟨hl, hn⟩
  rcases List.mem_cons.mp hx with rfl | hx
  · (try simp -implicitDefEqProofs -dsimp)
    exact main p h.p fun ns hn => hR ns (.inl hn)
  · have hx := List.mem_singleton.mp hx
    subst hx
    (try simp -implicitDefEqProofs -dsimp)
    exact main q h.q fun ns hn => hR ns (.inr hn)
theorem rd_Lrests : ∀ cs R, sp_Lrests cs R → w_Lrests (endsOf cs R) (start0 3 cs) := by
  rintro _ R ⟨br, bx, rfl, hl, hl2, hb, hR⟩
  simp -implicitDefEqProofs -dsimp [w_Lrests]
  refine ⟨by omega, ?_⟩
  rw [nums_0]
  refine com_map (List.range bx.length) _ rfl (fun i => if (!decide (gi bx i % gi br i = 0)) = true then some (.int (i : Nat)) else none) (fun i hi acc K hK => ?_) ?_
  · have hi := List.mem_range.mp hi
    have p := hb _ (gi_mem (ns := br) (i := i) (by omega))
    simp -implicitDefEqProofs -dsimp [gi_at (ns := br) (i := i) (by omega), gi_at hi]
    refine ⟨by omega, ?_⟩
    split
    · rename_i z
      simpa [z] using hK
    · rename_i z
      simpa [z] using hK
  · rw [fm_map]
    (try simp -implicitDefEqProofs -dsimp)
    exact hR
theorem isSum_ks {s a b : Int} (hs : 0 ≤ s) (ha : 1 ≤ a) (hb : 1 ≤ b) : isSum a b s = !((List.range (s / a + 1).toNat).filter fun (k : Nat) => decide ((s - (k : Int) * a) % b = 0)).isEmpty := by
  rw [Bool.eq_iff_iff, isSum_iff ha hb]
  have q := Int.ediv_nonneg hs (show 0 ≤ a by omega)
  simp only [Bool.not_eq_true', List.isEmpty_eq_false_iff_exists_mem, List.mem_filter, List.mem_range, decide_eq_true_eq]
  constructor
  · rintro ⟨x, y, hx, hy, rfl⟩
    have hby := Int.mul_nonneg (show 0 ≤ b by omega) hy
    refine ⟨x.toNat, ?_, ?_⟩
    · have : x ≤ (a * x + b * y) / a := by
        rw [Int.le_ediv_iff_mul_le (by omega), Int.mul_comm]; omega
      omega
    · rw [Int.toNat_of_nonneg hx]
      have : a * x + b * y - x * a = b * y := by rw [Int.mul_comm x a]; omega
      rw [this]; exact Int.mul_emod_right ..
  · rintro ⟨k, hk, hm⟩
    have hk' : (k : Int) ≤ s / a := by omega
    rw [Int.le_ediv_iff_mul_le (by omega)] at hk'
    obtain ⟨y, hy⟩ := Int.dvd_of_emod_eq_zero hm
    refine ⟨k, y, by omega, ?_, by rw [Int.mul_comm a]; omega⟩
    by_cases c : 0 ≤ y
    · exact c
    · have : b * y ≤ b * (-1) := Int.mul_le_mul_of_nonneg_left (by omega) (by omega)
      omega
theorem rd_Lis_sum : ∀ cs R, sp_Lis_sum cs R → w_Lis_sum (endsOf cs R) (start0 4 cs) := by
  rintro _ R ⟨s, a, b, rfl, s0, s1, a0, a1, b0, h, hR⟩
  have q := Int.ediv_nonneg s0 (show 0 ≤ a by omega)
  simp -implicitDefEqProofs -dsimp [w_Lis_sum]
  refine ⟨(pos60 ⟨a0, a1⟩).div, by omega, by omega, ?_⟩
  rw [nums_0]
  refine com_map (List.range (s / a + 1).toNat) _ rfl (fun k => if decide ((s - (k : Int) * a) % b = 0) = true then some (.int (k : Nat)) else none) (fun k hk acc K hK => ?_) ?_
  · have hk := List.mem_range.mp hk
    (try simp -implicitDefEqProofs -dsimp)
    refine ⟨cm_r (by omega), by omega, ?_⟩
    split
    · rename_i z
      simpa [z] using hK
    · rename_i z
      simpa [z] using hK
  · rw [fm_map]
    (try simp -implicitDefEqProofs -dsimp)
    rw [isSum_ks s0 a0 b0] at hR
    refine ⟨shaped_nats _, shaped_nil, ?_⟩
    rw [eqv_nats]
    exact hR
theorem eqv_natsA : ∀ (as bs : List Nat), PyData.eqvAll (lN as) (lN bs) = decide (as = bs)
  | [], [] => by simp [PyData.eqvAll]
  | [], _ :: _ => by simp [PyData.eqvAll]
  | _ :: _, [] => by simp [PyData.eqvAll]
  | a :: as, b :: bs => by
    have := eqv_natsA as bs
    simp only [lN, List.map_cons, PyData.eqvAll, PyData.eqv] at this ⊢
    rw [this]
    by_cases h : a = b
    · subst h; simp
    · have : ¬ ((a : Int) = (b : Int)) := by omega
      simp [h, this]
theorem rd_Lis_filled : ∀ cs R, sp_Lis_filled cs R → w_Lis_filled (endsOf cs R) (start0 4 cs) := by
  rintro _ R ⟨a, b, bx, rfl, la, lb, ll, ha, hb, hx, hR⟩
  simp -implicitDefEqProofs -dsimp [w_Lis_filled]
  refine ask_of (sp := sp_Lrests) ⟨a, bx, rfl, by omega, by omega, fun x h => (ha x h).1, ?_⟩
  (try simp -implicitDefEqProofs -dsimp)
  refine ask_of (sp := sp_Lrests) ⟨b, bx, rfl, by omega, by omega, hb, ?_⟩
  simp -implicitDefEqProofs -dsimp [shaped_nats, eqv_nats, shaped_nil]
  unfold fillB at hR
  by_cases ea : restsF a bx = []
  · rw [ea] at hR
    rw [if_pos ea]
    exact hR
  rw [if_neg ea]
  by_cases eb : restsF b bx = []
  · rw [eb] at hR
    rw [if_pos eb]
    simpa using hR
  rw [if_neg eb]
  have na : (restsF a bx).isEmpty = false := by simpa using ea
  have nb : (restsF b bx).isEmpty = false := by simpa using eb
  rw [na, nb, Bool.false_or, Bool.false_or] at hR
  simp -implicitDefEqProofs -dsimp [w_Lis_filled_t2, shaped_nats, eqv_natsA]
  by_cases h1 : 1 < (restsF a bx).length
  · have : ¬ (restsF a bx).length = 1 := by omega
    rw [if_pos (by omega)]
    simpa [this] using hR
  by_cases h2 : restsF a bx = restsF b bx
  · have h3 : (restsF a bx).length = 1 := by
      have : 0 < (restsF a bx).length := List.length_pos_iff.mpr ea
      omega
    obtain ⟨ax, hax⟩ := List.length_eq_one_iff.mp h3
    have hlt : ax < bx.length := (mem_rests.mp (by rw [hax]; exact List.mem_cons_self ..)).1
    rw [if_neg (by omega), if_pos h2]
    rw [← h2, hax] at hR ⊢
    simp -implicitDefEqProofs -dsimp [w_Lis_filled_t1, gi_at (show ax < a.length by omega), gi_at (show ax < b.length by omega), gi_at hlt]
    obtain ⟨x0, x1, x2⟩ := hx ax hlt
    have a0 := ha _ (gi_mem (show ax < a.length by omega))
    have b0 := hb _ (gi_mem (show ax < b.length by omega))
    refine ask_of ⟨_, _, _, rfl, x0, x1, a0.1, a0.2, b0, x2, ?_⟩
    simpa using hR
  · rw [if_neg (by omega), if_neg h2]
    simpa [h2] using hR
theorem vol_cons (x : Int) (xs : List Int) : vol (x :: xs) = x * vol xs := by
  unfold vol
  have : ∀ (l : List Int) (y z : Int), l.foldl (fun a b => a * b) (y * z) = y * l.foldl (fun a b => a * b) z := by
    intro l
    induction l with
    | nil => intros; rfl
    | cons w l ih => intro y z; simp only [List.foldl_cons]; rw [Int.mul_assoc, ih]
  rw [List.foldl_cons, Int.one_mul, ← this xs x 1, Int.mul_one]
theorem vol_pos : ∀ {ns : List Int}, (∀ x ∈ ns, 1 ≤ x) → 1 ≤ vol ns
  | [], _ => by simp [vol]
  | x :: xs, h => by
    have a := h x (List.mem_cons_self ..)
    have b := vol_pos fun y hy => h y (List.mem_cons_of_mem _ hy)
    rw [vol_cons]
    have := Int.mul_le_mul a b (by omega) (by omega)
    omega
end TW
set_option Elab.async false
set_option linter.all false
set_option maxRecDepth 100000
set_option maxHeartbeats 4000000
namespace TW
open PySem PySem.Spec PyProof.Rows L2 DL
theorem rests_nil {a bx : List Int} : restsF a bx = [] ↔ ∀ i, i < bx.length → gi a i ∣ gi bx i := by
  rw [List.eq_nil_iff_forall_not_mem]
  constructor
  · intro h i hi
    have := h i
    rw [mem_rests] at this
    by_cases c : gi bx i % gi a i = 0
    · exact Int.dvd_of_emod_eq_zero c
    · exact absurd ⟨hi, c⟩ this
  · intro h i hm
    rw [mem_rests] at hm
    exact hm.2 (Int.emod_eq_zero_of_dvd (h i hm.1))
def Fill (a b bx : List Int) : Prop := (∀ i, i < bx.length → gi a i ∣ gi bx i) ∨ (∀ i, i < bx.length → gi b i ∣ gi bx i) ∨
  ∃ ax, ax < bx.length ∧ (∀ i, i < bx.length → i ≠ ax → gi a i ∣ gi bx i ∧ gi b i ∣ gi bx i) ∧ isSum (gi a ax) (gi b ax) (gi bx ax) = true
theorem nodup_sing {l : List Nat} {ax : Nat} (hn : l.Nodup) (h0 : l ≠ []) (h : ∀ i ∈ l, i = ax) : l = [ax] := by
  cases l with
  | nil => exact absurd rfl h0
  | cons x l =>
    have hx := h x (List.mem_cons_self ..)
    subst hx
    cases l with
    | nil => rfl
    | cons y l =>
      have := h y (by simp)
      subst this
      simp at hn
theorem fillB_iff {a b bx : List Int} : fillB a b bx = true ↔ Fill a b bx := by
  unfold fillB Fill
  rw [← rests_nil, ← rests_nil]
  simp only [Bool.or_eq_true, Bool.and_eq_true, decide_eq_true_eq, List.isEmpty_iff]
  constructor
  · rintro ((h | h) | ⟨⟨h1, h2⟩, h3⟩)
    · exact .inl h
    · exact .inr (.inl h)
    · obtain ⟨ax, hax⟩ := List.length_eq_one_iff.mp h2
      rw [hax] at h3
      have hm := mem_rests.mp (show ax ∈ restsF a bx by rw [hax]; simp)
      refine .inr (.inr ⟨ax, hm.1, fun i hi hne => ?_, h3⟩)
      have n1 : i ∉ restsF a bx := by rw [hax]; simpa using hne
      have n2 : i ∉ restsF b bx := by rw [← h1]; exact n1
      rw [mem_rests] at n1 n2
      exact ⟨Int.dvd_of_emod_eq_zero (Classical.byContradiction fun c => n1 ⟨hi, c⟩), Int.dvd_of_emod_eq_zero (Classical.byContradiction fun c => n2 ⟨hi, c⟩)⟩
  · rintro (h | h | ⟨ax, hax, h1, h2⟩)
    · exact .inl (.inl h)
    · exact .inl (.inr h)
    · by_cases ea : restsF a bx = []
      · exact .inl (.inl ea)
      by_cases eb : restsF b bx = []
      · exact .inl (.inr eb)
      have q1 := nodup_sing (rests_nodup a bx) ea fun i hi => Classical.byContradiction fun c => (mem_rests.mp hi).2 (Int.emod_eq_zero_of_dvd (h1 i (mem_rests.mp hi).1 c).1)
      have q2 := nodup_sing (rests_nodup b bx) eb fun i hi => Classical.byContradiction fun c => (mem_rests.mp hi).2 (Int.emod_eq_zero_of_dvd (h1 i (mem_rests.mp hi).1 c).2)
      exact .inr ⟨⟨by rw [q1, q2], by rw [q1]; rfl⟩, by rw [q1]; exact h2⟩
end TW
set_option Elab.async false
set_option linter.all false
set_option maxRecDepth 100000
set_option maxHeartbeats 4000000
namespace TW
open PySem PySem.Spec PyProof.Rows L2 DL
def CellsOk (ns : List Int) : Prop := (∀ x ∈ ns, 0 ≤ x) ∧ ∀ k, k ≤ ns.length → vol (ns.take k) ≤ 1000000
end TW
set_option Elab.async false
set_option linter.all false
set_option maxRecDepth 100000
set_option maxHeartbeats 4000000
namespace TW
open PySem PySem.Spec PyProof.Rows L2 DL
theorem vol_pre {as bs : List Int} (h : ∀ x ∈ as ++ bs, 1 ≤ x) : vol as ≤ vol (as ++ bs) := by
  have e : vol (as ++ bs) = vol as * vol bs := by
    induction as with
    | nil => rw [List.nil_append]; show _ = 1 * _; omega
    | cons a as ih =>
      rw [List.cons_append, vol_cons, vol_cons, ih fun x hx => h x (by simp at hx ⊢; exact .inr hx), Int.mul_assoc]
  rw [e]
  have a1 := vol_pos (ns := as) fun x hx => h x (by simp [hx])
  have b1 := vol_pos (ns := bs) fun x hx => h x (by simp [hx])
  have := Int.mul_le_mul_of_nonneg_left b1 (show 0 ≤ vol as by omega)
  omega
theorem CellsOk.of {ns : List Int} (h1 : ∀ x ∈ ns, 1 ≤ x) (h2 : vol ns ≤ 1000000) : CellsOk ns := ⟨fun x hx => by have := h1 x hx; omega, fun k _ => by
  have := vol_pre (as := ns.take k) (bs := ns.drop k) fun x hx => h1 x (by rwa [List.take_append_drop] at hx)
  rw [List.take_append_drop] at this
  omega⟩
end TW
set_option Elab.async false
set_option linter.all false
set_option maxRecDepth 100000
set_option maxHeartbeats 4000000
namespace TW
open PySem PySem.Spec PyProof.Rows L2 DL
def sp_Lwith : DSp := fun cs R => ∃ (ds : List PyData) (i : Nat) (d : PyData), cs = [.d (.tuple ds), .d (.int (i : Int)), .d d] ∧ i < ds.length ∧ ds.length ≤ 100000 ∧ R (.tuple (ds.set i d)) cs
def w_Lwith : DTS := (wRet (wOp pAddB (wOp pAddB (wSl pSl (wVar 0) wNoP (wPart (wVar 1))) (wTup (wCons (wVar 2) wNil))) (wSl pSl (wVar 0) (wPart (wOp pAddB (wVar 1) (wC (.int 1)))) wNoP)))
theorem ln_Lwith : ∀ cs R, sp_Lwith cs R → cs.length = 3 := by
  intro cs R h
  unfold sp_Lwith at h
  repeat (obtain ⟨_, h⟩ := h)
  subst_vars; rfl
end TW
set_option Elab.async false
set_option linter.all false
set_option maxRecDepth 100000
set_option maxHeartbeats 4000000
namespace TW
open PySem PySem.Spec PyProof.Rows L2 DL
theorem rd_Lwith : ∀ cs R, sp_Lwith cs R → w_Lwith (endsOf cs R) (start0 3 cs) := by
  rintro _ R ⟨ds, i, d, rfl, hi, hl, hR⟩
  have e := cut_put (y := d) hi
  rw [List.append_assoc, List.singleton_append] at e
  simp -implicitDefEqProofs -dsimp [w_Lwith, e]
  have l1 : (DL.cutD ds none (some (i : Int))).length ≤ 100000 := by rw [cutD_take]; simp; omega
  have l2 : (DL.cutD ds (some ((i : Int) + 1)) none).length ≤ 100000 := by rw [cutD_drop1]; simp; omega
  exact ⟨by omega, by omega, hR⟩
theorem all_gi {P : Int → Prop} {ns : List Int} (h : ∀ i, i < ns.length → P (gi ns i)) : ∀ x ∈ ns, P x := fun x hx => by
  obtain ⟨i, hi, e⟩ := List.mem_iff_getElem.mp hx
  have := h i hi
  have g := gi_at hi
  rw [List.getElem?_eq_getElem hi, e] at g
  rw [← Option.some.inj g] at this
  exact this
end TW
set_option Elab.async false
set_option linter.all false
set_option maxRecDepth 100000
set_option maxHeartbeats 4000000
namespace TW
open PySem PySem.Spec PyProof.Rows L2 DL
def escF (a b c d : List Int) : PyData := if fillB c d a = false then tI a else if fillB c d b = false then tI b else .none
def withinB (a b c d : List Int) : Bool := fillB c d a && fillB c d b
end TW
set_option Elab.async false
set_option linter.all false
set_option maxRecDepth 100000
set_option maxHeartbeats 4000000
namespace TW
open PySem PySem.Spec PyProof.Rows L2 DL
end TW
set_option Elab.async false
set_option linter.all false
set_option maxRecDepth 100000
set_option maxHeartbeats 4000000
namespace DL
open PySem PySem.Spec PyProof.Rows L2
variable [Tb]
inductive Pt
  | val (d : PyData)
  | cap (i : Nat)
def eachM : List Pt → List PyData → (Option (List (Nat × PyData)) → Prop) → Prop
  | [], [], k => k (some [])
  | .val d :: ps, x :: xs, k => pEq x d fun z => ∃ b, z = .bool b ∧ if b = true then eachM ps xs k else k none
  | .cap i :: ps, x :: xs, k => eachM ps xs fun o => match o with
    | none => k none
    | some bs => k (some ((i, x) :: bs))
  | _, _, _ => False
def setsD (δ : DS) : List (Nat × PyData) → DS
  | [] => δ
  | (i, x) :: r => setsD (δ.set i (.d x)) r
inductive Ct
  | seq (ps : List Pt) (b : DTS)
  | wild (b : DTS)
def caseM : List Ct → List PyData → DTS
  | [], _, E, δ => E.nx δ
  | .wild b :: _, _, E, δ => b E δ
  | .seq ps b :: cs, xs, E, δ => if xs.length = ps.length then eachM ps xs fun o => match o with
      | none => caseM cs xs E δ
      | some bs => b E (setsD δ bs)
    else caseM cs xs E δ
def tpC (x : PyData) (k : List PyData → Prop) (_u : Stop k) : Prop := match x with
  | .tuple xs => k xs
  | _ => False
omit [Tb] in
@[simp ↓] theorem tpC_t (xs : List PyData) (k : List PyData → Prop) (u : Stop k) : tpC (.tuple xs) k u = k xs := rfl
def wMatch (w : DE) (cs : List Ct) : DTS := fun E δ => w δ fun o δ1 => lk o δ1 fun x δ2 => tpC x (fun xs => xs.length ≤ 1000000 ∧ caseM cs xs E δ2) .mk
omit [Tb] in
@[simp ↓] theorem wMatch_ap (w : DE) (cs : List Ct) (E : DEnds) (δ : DS) : wMatch w cs E δ = (w δ fun o δ1 => lk o δ1 fun x δ2 => tpC x (fun xs => xs.length ≤ 1000000 ∧ caseM cs xs E δ2) .mk) := rfl
omit [Tb] in
@[simp ↓] theorem eachM_nil (k : Option (List (Nat × PyData)) → Prop) : eachM [] [] k = k (some []) := rfl
omit [Tb] in
@[simp ↓] theorem eachM_val (d x : PyData) (ps : List Pt) (xs : List PyData) (k : Option (List (Nat × PyData)) → Prop) : eachM (.val d :: ps) (x :: xs) k = (pEq x d fun z => ∃ b, z = .bool b ∧ if b = true then eachM ps xs k else k none) := rfl
omit [Tb] in
@[simp ↓] theorem eachM_cap (i : Nat) (x : PyData) (ps : List Pt) (xs : List PyData) (k : Option (List (Nat × PyData)) → Prop) : eachM (.cap i :: ps) (x :: xs) k = (eachM ps xs fun o => match o with
    | none => k none
    | some bs => k (some ((i, x) :: bs))) := rfl
omit [Tb] in
@[simp ↓] theorem caseM_nil (xs : List PyData) (E : DEnds) (δ : DS) : caseM [] xs E δ = E.nx δ := rfl
omit [Tb] in
@[simp ↓] theorem caseM_wild (b : DTS) (cs : List Ct) (xs : List PyData) (E : DEnds) (δ : DS) : caseM (.wild b :: cs) xs E δ = b E δ := rfl
omit [Tb] in
@[simp ↓] theorem caseM_seq (ps : List Pt) (b : DTS) (cs : List Ct) (xs : List PyData) (E : DEnds) (δ : DS) : caseM (.seq ps b :: cs) xs E δ = (if xs.length = ps.length then eachM ps xs fun o => match o with
      | none => caseM cs xs E δ
      | some bs => b E (setsD δ bs)
    else caseM cs xs E δ) := rfl
omit [Tb] in
@[simp ↓] theorem setsD_nil (δ : DS) : setsD δ [] = δ := rfl
omit [Tb] in
@[simp ↓] theorem setsD_cons (δ : DS) (i : Nat) (x : PyData) (r : List (Nat × PyData)) : setsD δ ((i, x) :: r) = setsD (δ.set i (.d x)) r := rfl
inductive PtOk (X : Cx) : List Pattern → List Pt → Prop
  | nil : PtOk X [] []
  | val {e : Expr} {v : V} {d : PyData} {pos : Pos} {ps : List Pattern} {qs : List Pt} (h : PE X e (tC v)) (hv : ∀ K G, Dn K G v d) (t : PtOk X ps qs) : PtOk X (.MatchValue e pos :: ps) (.val d :: qs)
  | cap {x : Str} {i : Nat} {pos : Pos} {ps : List Pattern} {qs : List Pt} (hi : X.N[i]? = some x) (hx : Loc X.env.scope x) (hf : X.fn x = true ∨ X.env.scope.names.lookup x = some .local) (t : PtOk X ps qs) : PtOk X (.MatchAs none (some x) pos :: ps) (.cap i :: qs)
theorem PtOk.len {X : Cx} {ps : List Pattern} {qs : List Pt} (h : PtOk X ps qs) : ps.length = qs.length := by
  induction h with
  | nil => rfl
  | val _ _ _ ih => simp [ih]
  | cap _ _ _ _ ih => simp [ih]
inductive BsOk (X : Cx) (G : Hp) : List (Str × Value) → List (Nat × PyData) → Prop
  | nil : BsOk X G [] []
  | cons {x : Str} {u : Value} {v : V} {i : Nat} {d : PyData} {bs : List (Str × Value)} {os : List (Nat × PyData)} (hi : X.N[i]? = some x) (hx : Loc X.env.scope x) (hf : X.fn x = true ∨ X.env.scope.names.lookup x = some .local) (r : RelV v u) (h : Dn X.K G v d) (t : BsOk X G bs os) : BsOk X G ((x, u) :: bs) ((i, d) :: os)
inductive RoOk (X : Cx) (G : Hp) : Option (List (Str × Value)) → Option (List (Nat × PyData)) → Prop
  | none : RoOk X G none none
  | some {bs : List (Str × Value)} {os : List (Nat × PyData)} (h : BsOk X G bs os) : RoOk X G (some bs) (some os)
section
variable {X : Cx}
inductive CsOk (X : Cx) : List MatchCase → List Ct → Prop
  | nil : CsOk X [] []
  | wild {body : List Stmt} {b : DTS} {pos : Pos} {rest : List MatchCase} {ws : List Ct} (hb : JSs X body b) : CsOk X (⟨.MatchAs none none pos, none, body⟩ :: rest) (.wild b :: ws)
  | seq {ps : List Pattern} {qs : List Pt} {pos : Pos} {body : List Stmt} {b : DTS} {rest : List MatchCase} {ws : List Ct} (h : PtOk X ps qs) (hstar : ps.findIdx? (·.isStar) = none) (hwild : (ps.all fun p => p.isWildcard || (p.isStar && p.names.isEmpty)) = false) (hb : JSs X body b) (t : CsOk X rest ws) : CsOk X (⟨.MatchSequence ps pos, none, body⟩ :: rest) (.seq qs b :: ws)
theorem PtOk.str {x : Str} {j : Nat} {p pos : Pos} {ps : List Pattern} {qs : List Pt} (t : PtOk X ps qs) : PtOk X (.MatchValue (.Constant (.str x) j p) pos :: ps) (.val (.str x) :: qs) := .val pe_str (fun _ _ => .str x) t
theorem PtOk.int {x : Int} {j : Nat} {p pos : Pos} {ps : List Pattern} {qs : List Pt} (t : PtOk X ps qs) : PtOk X (.MatchValue (.Constant (.int x) j p) pos :: ps) (.val (.int x) :: qs) := .val pe_int (fun _ _ => .int x) t
end
end DL
namespace DL
open PySem PySem.Spec PyProof.Rows L2
variable [Tb]
end DL
set_option Elab.async false
set_option linter.all false
set_option maxRecDepth 100000
set_option maxHeartbeats 4000000
namespace DL
open PySem PySem.Spec PyProof.Rows L2
variable [Tb]
def wPar4 (i j k l : Nat) (w : DMs) : DTS := fun E δ => w δ fun cs δ1 => ∃ c d e f, cs = [c, d, e, f] ∧ E.nx ((((δ1.set i c).set j d).set k e).set l f)
omit [Tb] in
@[simp ↓] theorem wPar4_ap (i j k l : Nat) (w : DMs) (E : DEnds) (δ : DS) : wPar4 i j k l w E δ = (w δ fun cs δ1 => match cs with
  | [c, d, e, f] => E.nx ((((δ1.set i c).set j d).set k e).set l f)
  | _ => False) := by
  unfold wPar4
  congr 1; funext cs δ1
  match cs with
  | [] => simp
  | [c] => simp
  | [c, d] => simp
  | [c, d, e] => simp
  | [c, d, e, f] => exact propext ⟨fun ⟨c', d', e', f', h0, h⟩ => by cases h0; exact h, fun h => ⟨c, d, e, f, rfl, h⟩⟩
  | c :: d :: e :: f :: g :: r => simp
section
variable {X : Cx} {pos : Pos}
end
end DL
set_option Elab.async false
set_option linter.all false
set_option maxRecDepth 100000
set_option maxHeartbeats 4000000
namespace DL
open PySem PySem.Spec PyProof.Rows L2
variable [Tb]
section
variable {X : Cx} {pos : Pos}
end
end DL
set_option Elab.async false
set_option linter.all false
set_option maxRecDepth 100000
set_option maxHeartbeats 4000000
namespace DL
open PySem PySem.Spec PyProof.Rows L2
variable [Tb]
section
variable {X : Cx}
def pMulW : P2 := fun x y R => match x, y with
  | .tuple xs, .int k => (0 < xs.length ∧ xs.length ≤ 10 ∧ 2 ≤ k ∧ k ≤ 100000) ∧ R (.tuple (List.replicate k.toNat xs).flatten)
  | _, _ => False
omit [Tb] in
@[simp ↓] theorem pMulW_ti (xs : List PyData) (k : Int) (R : PyData → Prop) : pMulW (.tuple xs) (.int k) R = ((0 < xs.length ∧ xs.length ≤ 10 ∧ 2 ≤ k ∧ k ≤ 100000) ∧ R (.tuple (List.replicate k.toNat xs).flatten)) := rfl
end
end DL
set_option Elab.async false
set_option linter.all false
set_option maxRecDepth 100000
set_option maxHeartbeats 4000000
namespace DL
open PySem PySem.Spec PyProof.Rows L2
variable [Tb]
section
variable {X : Cx} {nm : Option Str} {e : Expr} {kws : List Keyword} {kpos : Pos}
end
def permO {α : Type} (z : α) (ix : List Nat) (os : List α) : List α := ix.map fun i => os.getD i z
def KB0 (K : PySem.W.Frag) (fd : FuncData) (ps ks : List Str) (ix : List Nat) : Prop :=
  ∀ (s : Shared) (ws : List Value), K.In s.heap → ws.length = ks.length → BindsTo s fd ⟨[], ks.zip ws⟩ (ps.zip (permO Value.none ix ws))
theorem KB0.of {K : PySem.W.Frag} {fd : FuncData} {ps ks : List Str} {ix : List Nat} (h : ∀ ws : List Value, ws.length = ks.length → bindArgs fd ⟨[], ks.zip ws⟩ = pure (ps.zip (permO Value.none ix ws))) : KB0 K fd ps ks ix := fun s ws _ hl => .of_eq (h ws hl)
theorem Fun.kb {K : PySem.W.Frag} {x qual : Str} {st : Stmt} {f : Addr} {fd : FuncData} {ps ks : List Str} {ix : List Nat} (F : Fun K x qual st f fd)
    (h : ∀ (kV doc pm : Value) (an : Option Addr) (cdv ct : Value) (ws : List Value), ws.length = ks.length → bindArgs (PySem.W.fnOf x qual (defArgs st) (defBody st) (defScope st) .none kV doc pm an cdv ct) ⟨[], ks.zip ws⟩ = pure (ps.zip (permO Value.none ix ws))) : KB0 K fd ps ks ix := by
  obtain ⟨oc, od, kV, doc, pm, an, cdv, ct, osl, rfl, lk, hcd⟩ := F.ex
  exact .of (h kV doc pm an cdv ct)
def wCallK (n : Nat) (ix : List Nat) (sp : DSp) (w : DA) : DE := fun δ R => w δ fun os δ1 => lkM [] os δ1 fun os' δ2 => (os'.length = n ∧ ∀ i ∈ ix, i < n) ∧ (slotsOf (permO (.d .none) ix os')).Nodup ∧ sp ((permO (.d .none) ix os').map (cellOf δ2)) fun x cs => R (.d x) (putBack (permO (.d .none) ix os') cs δ2)
theorem getD_some {α : Type} {l : List α} {i : Nat} (h : i < l.length) (z : α) : l[i]? = some (l.getD i z) := by
  rw [List.getD_eq_getElem?_getD, List.getElem?_eq_getElem h]; rfl
section
variable {X : Cx} {CX : CXT} {k : Nat} {f : Addr} {fd : FuncData} {ps ks : List Str} {x : Str} {p pos : Pos} {kws : List Keyword} {ix : List Nat}
end
omit [Tb] in
@[simp ↓] theorem wCallK_ap (n : Nat) (ix : List Nat) (sp : DSp) (w : DA) (δ : DS) (R : Opd → DS → Prop) : wCallK n ix sp w δ R = (w δ fun os δ1 => lkM [] os δ1 fun os' δ2 => (os'.length = n ∧ ∀ i ∈ ix, i < n) ∧ (slotsOf (permO (.d .none) ix os')).Nodup ∧ ask sp ((permO (.d .none) ix os').map (cellOf δ2)) (fun x cs => R (.d x) (putBack (permO (.d .none) ix os') cs δ2)) .mk) := rfl
omit [Tb] in
@[simp ↓] theorem permO_nil {α : Type} (z : α) (os : List α) : permO z [] os = [] := rfl
omit [Tb] in
@[simp ↓] theorem permO_cons {α : Type} (z : α) (i : Nat) (ix : List Nat) (os : List α) : permO z (i :: ix) os = os.getD i z :: permO z ix os := rfl
end DL
set_option Elab.async false
set_option linter.all false
set_option maxRecDepth 100000
set_option maxHeartbeats 4000000
namespace DL
open PySem PySem.Spec PyProof.Rows L2
variable [Tb]
abbrev KVs := List (List Int × PyData)
def valD (kvs : KVs) (k : List Int) : Option PyData := (kvs.find? fun p => decide (p.1 = k)).map (·.2)
def putD (kvs : KVs) (k : List Int) (x : PyData) : KVs := if (kvs.any fun p => decide (p.1 = k)) = true then kvs.map (fun p => if p.1 = k then (p.1, x) else p) else kvs ++ [(k, x)]
theorem keyI_inj : ∀ {a b : List Int}, keyI a = keyI b → a = b
  | [], [], _ => rfl
  | [], _ :: _, h => by simp [keyI] at h
  | _ :: _, [], h => by simp [keyI] at h
  | x :: a, y :: b, h => by
    have h : (Sum.inl x : Key) :: keyI a = (Sum.inl y : Key) :: keyI b := h
    obtain ⟨h1, h2⟩ := List.cons.inj h
    rw [keyI_inj h2, Sum.inl.inj h1]
section
variable {K : PySem.W.Frag} {G : Hp}
theorem DnK.nil : DnK K G [] [] := ⟨rfl, .nil⟩
theorem DnK.cons {w : List Key × V} {ws : List (List Key × V)} {p : List Int × PyData} {kvs : KVs} (h1 : w.1 = keyI p.1) (h2 : Dn K G w.2 p.2) (t : DnK K G ws kvs) : DnK K G (w :: ws) (p :: kvs) := ⟨by rw [List.map_cons, List.map_cons, h1, t.1], .cons h2 t.2⟩
theorem DnK.inv {ws : List (List Key × V)} {p : List Int × PyData} {kvs : KVs} (h : DnK K G ws (p :: kvs)) : ∃ w ws', ws = w :: ws' ∧ w.1 = keyI p.1 ∧ Dn K G w.2 p.2 ∧ DnK K G ws' kvs := by
  obtain ⟨h1, h2⟩ := h
  cases ws with
  | nil => simp at h1
  | cons w ws =>
    rw [List.map_cons, List.map_cons] at h1
    obtain ⟨a, b⟩ := List.cons.inj h1
    cases h2 with
    | cons c d => exact ⟨w, ws, rfl, a, c, b, d⟩
theorem DnK.inv0 {ws : List (List Key × V)} (h : DnK K G ws []) : ws = [] := by
  have := h.1
  cases ws with
  | nil => rfl
  | cons w ws => simp at this
theorem DnK.len : ∀ {kvs : KVs} {ws : List (List Key × V)}, DnK K G ws kvs → ws.length = kvs.length
  | [], ws, h => by rw [h.inv0]; rfl
  | p :: kvs, ws, h => by
    obtain ⟨w, ws', rfl, _, _, t⟩ := h.inv
    rw [List.length_cons, List.length_cons, t.len]
theorem DnK.mono {G' : Hp} {kvs : KVs} {ws : List (List Key × V)} (h : DnK K G ws kvs) (s : Same G G') : DnK K G' ws kvs := ⟨h.1, h.2.mono s⟩
theorem DnK.val (k : List Int) : ∀ {kvs : KVs} {ws : List (List Key × V)}, DnK K G ws kvs → (valD kvs k = none ∧ valV ws (keyI k) = none) ∨ ∃ x v, valD kvs k = some x ∧ valV ws (keyI k) = some v ∧ Dn K G v x
  | [], ws, h => by rw [h.inv0]; exact .inl ⟨rfl, rfl⟩
  | p :: kvs, ws, h => by
    obtain ⟨w, ws', rfl, e, d, t⟩ := h.inv
    by_cases q : p.1 = k
    · refine .inr ⟨p.2, w.2, by simp [valD, q], ?_, d⟩
      exact valV_pos (by rw [e, q])
    · have q2 : ¬ w.1 = keyI k := fun z => q (keyI_inj (e.symm.trans z))
      have v1 : valD (p :: kvs) k = valD kvs k := by simp [valD, q]
      rw [v1, valV_neg q2]
      exact t.val k
theorem DnK.snoc {k : List Int} {v : V} {x : PyData} (d : Dn K G v x) : ∀ {kvs : KVs} {ws : List (List Key × V)}, DnK K G ws kvs → DnK K G (ws ++ [(keyI k, v)]) (kvs ++ [(k, x)])
  | [], ws, h => by rw [h.inv0]; exact .cons rfl d .nil
  | p :: kvs, ws, h => by
    obtain ⟨w, ws', rfl, e, d', t⟩ := h.inv
    exact .cons e d' (t.snoc d)
theorem DnK.repl {k : List Int} {v : V} {x : PyData} (d : Dn K G v x) : ∀ {kvs : KVs} {ws : List (List Key × V)}, DnK K G ws kvs → DnK K G (ws.map fun w => if w.1 = keyI k then (w.1, v) else w) (kvs.map fun p => if p.1 = k then (p.1, x) else p)
  | [], ws, h => by rw [h.inv0]; exact .nil
  | p :: kvs, ws, h => by
    obtain ⟨w, ws', rfl, e, d', t⟩ := h.inv
    rw [List.map_cons, List.map_cons]
    refine .cons ?_ ?_ (t.repl d)
    · by_cases q : p.1 = k
      · rw [if_pos (by rw [e, q]), if_pos q]; exact e
      · rw [if_neg fun z => q (keyI_inj (e.symm.trans z)), if_neg q]; exact e
    · by_cases q : p.1 = k
      · rw [if_pos (by rw [e, q]), if_pos q]; exact d
      · rw [if_neg fun z => q (keyI_inj (e.symm.trans z)), if_neg q]; exact d'
theorem DnK.any (k : List Int) : ∀ {kvs : KVs} {ws : List (List Key × V)}, DnK K G ws kvs → (ws.any fun w => decide (w.1 = keyI k)) = kvs.any fun p => decide (p.1 = k)
  | [], ws, h => by rw [h.inv0]; rfl
  | p :: kvs, ws, h => by
    obtain ⟨w, ws', rfl, e, _, t⟩ := h.inv
    rw [List.any_cons, List.any_cons, t.any k]
    congr 1
    rw [decide_eq_decide, e]
    exact ⟨keyI_inj, fun q => by rw [q]⟩
theorem DnK.put {k : List Int} {v : V} {x : PyData} {kvs : KVs} {ws : List (List Key × V)} (h : DnK K G ws kvs) (d : Dn K G v x) : DnK K G (putK ws (keyI k) v) (putD kvs k x) := by
  unfold putK putD
  rw [h.any k]
  split
  · exact h.repl d
  · exact h.snoc d
end
def keyOf (x : PyData) (k : List Int → Prop) (_u : Stop k) : Prop := ∃ ns : List Int, x = .tuple (ns.map PyData.int) ∧ ns ≠ [] ∧ k ns
omit [Tb] in
@[simp ↓] theorem keyOf_t (ns : List Int) (k : List Int → Prop) (u : Stop k) : keyOf (.tuple (ns.map PyData.int)) k u = (ns ≠ [] ∧ k ns) :=
  propext ⟨fun ⟨ms, e, h⟩ => by rw [map_int_inj (PyData.tuple.inj e)]; exact h, fun h => ⟨ns, rfl, h⟩⟩
def odC (o : Option Cell) (k : Addr → KVs → Prop) (_u : Stop k) : Prop := ∃ a kvs, o = some (.od a kvs) ∧ k a kvs
omit [Tb] in
@[simp ↓] theorem odC_od (a : Addr) (kvs : KVs) (k : Addr → KVs → Prop) (u : Stop k) : odC (some (.od a kvs)) k u = k a kvs :=
  propext ⟨fun ⟨b, ks, e, h⟩ => by cases e; exact h, fun h => ⟨a, kvs, rfl, h⟩⟩
def isOd (δ : DS) (i : Nat) : Prop := ∃ a kvs, δ[i]? = some (.od a kvs)
section
variable {X : Cx} {e f : Expr} {pos pos' px : Pos} {x : Str} {i : Nat}
def mD : DM := fun δ R => ∀ a, R (.od a []) δ
def wDIn (i : Nat) (w : DE) : DE := fun δ R => w δ fun o δ1 => use o δ1 fun x => keyOf x (fun k => odC δ1[i]? (fun _ kvs => R (.d (.bool (valD kvs k).isSome)) δ1) .mk) .mk
def wDNotIn (i : Nat) (w : DE) : DE := fun δ R => w δ fun o δ1 => use o δ1 fun x => keyOf x (fun k => odC δ1[i]? (fun _ kvs => R (.d (.bool (!(valD kvs k).isSome))) δ1) .mk) .mk
def wDGet (i : Nat) (w : DE) : DE := fun δ R => isOd δ i ∧ w δ fun o δ1 => use o δ1 fun x => keyOf x (fun k => odC δ1[i]? (fun _ kvs => onS (valD kvs k) (fun y => R (.d y) δ1) .mk) .mk) .mk
def wDPut (i : Nat) (wk wv : DE) : DTS := fun E δ => isOd δ i ∧ wv δ fun o δ1 => lk o δ1 fun x δ2 => wk δ2 fun o2 δ3 => use o2 δ3 fun y => keyOf y (fun k => odC δ3[i]? (fun a kvs => kvs.length ≤ 1000000 ∧ E.nx (δ3.set i (.od a (putD kvs k x)))) .mk) .mk
end
omit [Tb] in
@[simp ↓] theorem mD_ap (δ : DS) (R : Cell → DS → Prop) : mD δ R = ∀ a, R (.od a []) δ := rfl
omit [Tb] in
@[simp ↓] theorem wDIn_ap (i : Nat) (w : DE) (δ : DS) (R : Opd → DS → Prop) : wDIn i w δ R = (w δ fun o δ1 => use o δ1 fun x => keyOf x (fun k => odC δ1[i]? (fun _ kvs => R (.d (.bool (valD kvs k).isSome)) δ1) .mk) .mk) := rfl
omit [Tb] in
@[simp ↓] theorem wDNotIn_ap (i : Nat) (w : DE) (δ : DS) (R : Opd → DS → Prop) : wDNotIn i w δ R = (w δ fun o δ1 => use o δ1 fun x => keyOf x (fun k => odC δ1[i]? (fun _ kvs => R (.d (.bool (!(valD kvs k).isSome))) δ1) .mk) .mk) := rfl
omit [Tb] in
@[simp ↓] theorem wDGet_ap (i : Nat) (w : DE) (δ : DS) (R : Opd → DS → Prop) : wDGet i w δ R = (isOd δ i ∧ w δ fun o δ1 => use o δ1 fun x => keyOf x (fun k => odC δ1[i]? (fun _ kvs => onS (valD kvs k) (fun y => R (.d y) δ1) .mk) .mk) .mk) := rfl
omit [Tb] in
@[simp ↓] theorem wDPut_ap (i : Nat) (wk wv : DE) (E : DEnds) (δ : DS) : wDPut i wk wv E δ = (isOd δ i ∧ wv δ fun o δ1 => lk o δ1 fun x δ2 => wk δ2 fun o2 δ3 => use o2 δ3 fun y => keyOf y (fun k => odC δ3[i]? (fun a kvs => kvs.length ≤ 1000000 ∧ E.nx (δ3.set i (.od a (putD kvs k x)))) .mk) .mk) := rfl
omit [Tb] in
@[simp ↓] theorem isOd_od (a : Addr) (kvs : KVs) (δ : DS) (i : Nat) (h : δ[i]? = some (.od a kvs)) : isOd δ i = True := eq_true ⟨a, kvs, h⟩
omit [Tb] in
@[simp ↓] theorem varC_od (a : Addr) (kvs : KVs) (i : Nat) (k : Opd → Prop) (u : Stop k) : varC (some (.od a kvs)) i k u = k (.s i) := rfl
omit [Tb] in
@[simp] theorem sameIo_od (a : Addr) (xs : KVs) (cs : List Cell) (e : Cell) (δ : DS) : sameIo (.od a xs :: cs) (e :: δ) = ((∃ ys, e = .od a ys) ∧ sameIo cs δ) := rfl
omit [Tb] in
@[simp] theorem outC_od (a : Addr) (xs : KVs) (cs : List Cell) (e : Cell) (δ : DS) : outC (.od a xs :: cs) (e :: δ) = e :: outC cs δ := rfl
end DL
set_option Elab.async false
set_option linter.all false
set_option maxRecDepth 100000
set_option maxHeartbeats 4000000
namespace DL
open PySem PySem.Spec PyProof.Rows L2
variable [Tb]
def pLtT : P2 := fun x y R => match x, y with
  | .int i, .int j => R (.bool (decide (i < j)))
  | .tuple xs, .tuple ys => (noOL xs = true ∧ noOL ys = true) ∧ W.alike (.tuple xs) (.tuple ys) = true ∧ (PyData.tuple xs).depth ≤ 50 ∧ R (.bool (W.dataLt (.tuple xs) (.tuple ys)))
  | _, _ => False
section
variable {X : Cx}
end
omit [Tb] in
@[simp ↓] theorem pLtT_ii (i j : Int) (R : PyData → Prop) : pLtT (.int i) (.int j) R = R (.bool (decide (i < j))) := rfl
omit [Tb] in
@[simp ↓] theorem pLtT_tt (xs ys : List PyData) (R : PyData → Prop) : pLtT (.tuple xs) (.tuple ys) R = ((noOL xs = true ∧ noOL ys = true) ∧ W.alike (.tuple xs) (.tuple ys) = true ∧ (PyData.tuple xs).depth ≤ 50 ∧ R (.bool (W.dataLt (.tuple xs) (.tuple ys)))) := rfl
end DL
set_option Elab.async false
set_option linter.all false
set_option maxRecDepth 100000
set_option maxHeartbeats 4000000
namespace DL
open PySem PySem.Spec PyProof.Rows L2
variable [Tb]
section
variable {X : Cx} {e f : Expr} {pos pos' px : Pos} {x : Str} {i : Nat}
end
end DL
set_option Elab.async false
set_option linter.all false
set_option maxRecDepth 100000
set_option maxHeartbeats 4000000
namespace DL
open PySem PySem.Spec PyProof.Rows L2
variable [Tb]
section
variable {P : Program} {w : World} {K : PySem.W.Frag} {mg : Str → Option Value} {base : Heap}
end
end DL
set_option Elab.async false
set_option linter.all false
set_option maxRecDepth 100000
set_option maxHeartbeats 4000000
namespace DL
open PySem PySem.Spec PyProof.Rows L2
variable [Tb]
def wAugS (i : Nat) (wi : DE) (c : Int) : DTS := fun E δ => isOl δ i ∧ wi δ fun oj δ1 => use oj δ1 fun j => asI j (fun jn => olC δ1[i]? (fun a xs => 0 ≤ jn ∧ onS xs[jn.toNat]? (fun x => asI x (fun m => E.nx (δ1.set i (.ol a (xs.set jn.toNat (.int (m + c)))))) .mk) .mk) .mk) .mk
omit [Tb] in
@[simp ↓] theorem wAugS_ap (i : Nat) (wi : DE) (c : Int) (E : DEnds) (δ : DS) : wAugS i wi c E δ = (isOl δ i ∧ wi δ fun oj δ1 => use oj δ1 fun j => asI j (fun jn => olC δ1[i]? (fun a xs => 0 ≤ jn ∧ onS xs[jn.toNat]? (fun x => asI x (fun m => E.nx (δ1.set i (.ol a (xs.set jn.toNat (.int (m + c)))))) .mk) .mk) .mk) .mk) := rfl
section
variable {X : Cx} {e : Expr} {pos px p1 p2 : Pos} {x : Str} {i : Nat}
end
end DL
set_option Elab.async false
set_option linter.all false
set_option maxRecDepth 100000
set_option maxHeartbeats 4000000
namespace DL
open PySem PySem.Spec PyProof.Rows L2
variable [Tb]
def pLeT : P2 := fun x y R => match x, y with
  | .int i, .int j => R (.bool (decide (i ≤ j)))
  | .tuple xs, .tuple ys => (noOL xs = true ∧ noOL ys = true) ∧ W.alike (.tuple xs) (.tuple ys) = true ∧ (PyData.tuple xs).depth ≤ 50 ∧ R (.bool (!W.dataLt (.tuple ys) (.tuple xs)))
  | _, _ => False
section
variable {X : Cx}
end
omit [Tb] in
@[simp ↓] theorem pLeT_ii (i j : Int) (R : PyData → Prop) : pLeT (.int i) (.int j) R = R (.bool (decide (i ≤ j))) := rfl
omit [Tb] in
@[simp ↓] theorem pLeT_tt (xs ys : List PyData) (R : PyData → Prop) : pLeT (.tuple xs) (.tuple ys) R = ((noOL xs = true ∧ noOL ys = true) ∧ W.alike (.tuple xs) (.tuple ys) = true ∧ (PyData.tuple xs).depth ≤ 50 ∧ R (.bool (!W.dataLt (.tuple ys) (.tuple xs)))) := rfl
end DL
set_option Elab.async false
set_option linter.all false
set_option maxRecDepth 100000
set_option maxHeartbeats 4000000
namespace DL
open PySem PySem.Spec PyProof.Rows L2
variable [Tb]
def wIfL (t : DT) (la lb : DL) : DL := fun δ R => t δ fun k δ1 => if k = true then la δ1 R else lb δ1 R
omit [Tb] in
@[simp ↓] theorem wIfL_ap (t : DT) (la lb : DL) (δ : DS) (R : List PyData → DS → Prop) : wIfL t la lb δ R = (t δ fun k δ1 => if k = true then la δ1 R else lb δ1 R) := rfl
end DL
set_option Elab.async false
set_option linter.all false
set_option maxRecDepth 100000
set_option maxHeartbeats 4000000
namespace DL
open PySem PySem.Spec PyProof.Rows L2
variable [Tb]
open PySem.SeqAt
open AutoSeq1 (wpAny_loadPart')
open MeetsSeq
def IsD (h : Heap) (a : Addr) : Prop := ∃ o es n, h.get? a = some o ∧ o.cls = .type "dict" ∧ o.data = .dict es n
section
variable {A : Around} {s : Shared} {l b : Addr} {es : Array DictEntry} {its : Array Value} {n m : Nat} {dd de : Option Addr} {sl sm : Array (Option Value)}
abbrev DictAt (h : Heap) (l : Addr) (es : Array DictEntry) (n : Nat) (dd : Option Addr) (sl : Array (Option Value)) : Prop := h.get? l = some { cls := .type "dict", dict := dd, data := .dict es n, slots := sl }
abbrev RowAt (T : String) (h : Heap) (b : Addr) (its : Array Value) (m : Nat) (de : Option Addr) (sm : Array (Option Value)) : Prop := h.get? b = some { cls := .type T, dict := de, data := .seq its m, slots := sm }
theorem away_none : Meets (Builtin.«dict.__eq__» ⟨[.ref l, .none], []⟩) (fun _ R z => DictAt z.heap l es n dd sl ∧ R (.ok (.ret .notImplemented)) z) := by
  refine .of_wp fun prog w A R ⟨hp, gs, dr, tk, os⟩ h => ?_
  have away := F.sub_NoneType_dict
  obtain ⟨at_l, h⟩ := h
  wp_walk using wpAny_loadPart' at_l
  exact ⟨_, rfl, h⟩
theorem away_bool (x : Bool) : Meets (Builtin.«dict.__eq__» ⟨[.ref l, .bool x], []⟩) (fun _ R z => DictAt z.heap l es n dd sl ∧ R (.ok (.ret .notImplemented)) z) := by
  refine .of_wp fun prog w A R ⟨hp, gs, dr, tk, os⟩ h => ?_
  have away := F.sub_bool_dict
  obtain ⟨at_l, h⟩ := h
  wp_walk using wpAny_loadPart' at_l
  exact ⟨_, rfl, h⟩
theorem away_int (x : Int) (u : Tok) : Meets (Builtin.«dict.__eq__» ⟨[.ref l, .int x u], []⟩) (fun _ R z => DictAt z.heap l es n dd sl ∧ R (.ok (.ret .notImplemented)) z) := by
  refine .of_wp fun prog w A R ⟨hp, gs, dr, tk, os⟩ h => ?_
  have away := F.sub_int_dict
  obtain ⟨at_l, h⟩ := h
  wp_walk using wpAny_loadPart' at_l
  exact ⟨_, rfl, h⟩
theorem away_str (x : Str) (u : Tok) : Meets (Builtin.«dict.__eq__» ⟨[.ref l, .str x u], []⟩) (fun _ R z => DictAt z.heap l es n dd sl ∧ R (.ok (.ret .notImplemented)) z) := by
  refine .of_wp fun prog w A R ⟨hp, gs, dr, tk, os⟩ h => ?_
  have away := F.sub_str_dict
  obtain ⟨at_l, h⟩ := h
  wp_walk using wpAny_loadPart' at_l
  exact ⟨_, rfl, h⟩
theorem bool_away (x : Bool) : Meets (Builtin.«int.__eq__» ⟨[.bool x, .ref l], []⟩) (fun _ R z => DictAt z.heap l es n dd sl ∧ R (.ok (.ret .notImplemented)) z) := by
  refine .of_wp fun prog w A R ⟨hp, gs, dr, tk, os⟩ h => ?_
  obtain ⟨at_l, h⟩ := h
  wp_walk using wpAny_loadPart' at_l, wpAny_load at_l
  exact ⟨_, rfl, h⟩
theorem int_away (x : Int) (u : Tok) : Meets (Builtin.«int.__eq__» ⟨[.int x u, .ref l], []⟩) (fun _ R z => DictAt z.heap l es n dd sl ∧ R (.ok (.ret .notImplemented)) z) := by
  refine .of_wp fun prog w A R ⟨hp, gs, dr, tk, os⟩ h => ?_
  obtain ⟨at_l, h⟩ := h
  wp_walk using wpAny_loadPart' at_l, wpAny_load at_l
  exact ⟨_, rfl, h⟩
theorem str_away (x : Str) (u : Tok) : Meets (Builtin.«str.__eq__» ⟨[.str x u, .ref l], []⟩) (fun _ R z => DictAt z.heap l es n dd sl ∧ R (.ok (.ret .notImplemented)) z) := by
  refine .of_wp fun prog w A R ⟨hp, gs, dr, tk, os⟩ h => ?_
  obtain ⟨at_l, h⟩ := h
  wp_walk using wpAny_loadPart' at_l, wpAny_load at_l
  exact ⟨_, rfl, h⟩
theorem away_list : Meets (Builtin.«dict.__eq__» ⟨[.ref l, .ref b], []⟩) (fun _ R z => DictAt z.heap l es n dd sl ∧ RowAt "list" z.heap b its m de sm ∧ R (.ok (.ret .notImplemented)) z) := by
  refine .of_wp fun prog w A R ⟨hp, gs, dr, tk, os⟩ h => ?_
  have away := F.sub_list_dict
  obtain ⟨at_l, at_b, h⟩ := h
  wp_walk using wpAny_loadPart' at_l, wpAny_loadPart' at_b
  exact ⟨_, rfl, h⟩
theorem list_away : Meets (Builtin.«list.__eq__» ⟨[.ref b, .ref l], []⟩) (fun _ R z => DictAt z.heap l es n dd sl ∧ RowAt "list" z.heap b its m de sm ∧ R (.ok (.ret .notImplemented)) z) := by
  refine .of_wp fun prog w A R ⟨hp, gs, dr, tk, os⟩ h => ?_
  have away := F.sub_dict_list
  obtain ⟨at_l, at_b, h⟩ := h
  wp_walk using wpAny_loadPart' at_b, wpAny_loadPart' at_l
  exact ⟨_, rfl, h⟩
theorem away_tuple : Meets (Builtin.«dict.__eq__» ⟨[.ref l, .ref b], []⟩) (fun _ R z => DictAt z.heap l es n dd sl ∧ RowAt "tuple" z.heap b its m de sm ∧ R (.ok (.ret .notImplemented)) z) := by
  refine .of_wp fun prog w A R ⟨hp, gs, dr, tk, os⟩ h => ?_
  have away := F.sub_tuple_dict
  obtain ⟨at_l, at_b, h⟩ := h
  wp_walk using wpAny_loadPart' at_l, wpAny_loadPart' at_b
  exact ⟨_, rfl, h⟩
theorem tuple_away : Meets (Builtin.«tuple.__eq__» ⟨[.ref b, .ref l], []⟩) (fun _ R z => DictAt z.heap l es n dd sl ∧ RowAt "tuple" z.heap b its m de sm ∧ R (.ok (.ret .notImplemented)) z) := by
  refine .of_wp fun prog w A R ⟨hp, gs, dr, tk, os⟩ h => ?_
  have away := F.sub_dict_tuple
  obtain ⟨at_l, at_b, h⟩ := h
  wp_walk using wpAny_loadPart' at_b, wpAny_loadPart' at_l
  exact ⟨_, rfl, h⟩
theorem differs {v : Value} {T id : String} (at_l : DictAt s.heap l es n dd sl) (ty : s.TypeIs v T) (ne : (Value.type T != Value.type "dict") = true) (sub : isSubtype (.type "dict") (.type T) = pure false) (slot : Slot T (cmpInfo .Eq).2.1 id) (room : A.units < cLine)
    (mine : ∀ (prog : Program) (w : World) (E Q : Value → Shared → Prop), Q .notImplemented s → wpAny (model prog w) A (call (.builtin id) [v, .ref l]) Q E s)
    (dicts : ∀ (prog : Program) (w : World) (E Q : Value → Shared → Prop), Q .notImplemented s → wpAny (model prog w) A (call (.builtin "dict.__eq__") [.ref l, v]) Q E s)
    (same : ∀ (prog : Program) (w : World) (E : Value → Shared → Prop) (Q : Bool → Shared → Prop), Q false s → wpAny (model prog w) A (isSame v (.ref l)) Q E s) : RcAt A s v (.ref l) false :=
  fun prog w E Q h => by
    exact rc_eq_decline_or (k := false) ty ⟨_, at_l, rfl⟩ ne sub slot F.slot_dict_eq_refl (mine prog w E) (dicts prog w E) (same prog w E) (.inr room) h
theorem differs_flat {v : Value} (flat : v = .none ∨ (∃ x, v = .bool x) ∨ (∃ x u, v = .int x u) ∨ ∃ x u, v = .str x u) (rc : RcAt A s v (.ref l) false) : EqAt A s v (.ref l) false := fun prog w E Q h => by
  have go : wpAny (model prog w) A (richCompare .Eq v (.ref l)) (fun r z => wpAny (model prog w) A (truthOfDropped r) Q E z) E s := rc prog w E _ (wpAny_truthy_bool h)
  delta eqBool
  rcases flat with rfl | ⟨_, rfl⟩ | ⟨_, _, rfl⟩ | ⟨_, _, rfl⟩ <;> exact wpAny_holding (wpAny_ite_split (fun e => absurd (eq_of_beq e) nofun) fun _ => wpAny_bind go)
theorem IsD.at {h : Heap} (d : IsD h l) : ∃ dd es n sl, DictAt h l es n dd sl := by
  obtain ⟨⟨_, dd, _, sl⟩, es, n, at_l, rfl, rfl⟩ := d
  exact ⟨dd, es, n, sl, at_l⟩
theorem dict_says {v : Value} {x : Shared} (at_l : DictAt s.heap l es n dd sl) {prog : Program} {w : World} {E Q : Value → Shared → Prop} {S : PySem.Spec} (own : Meets (Builtin.«dict.__eq__» ⟨[.ref l, v], []⟩) S) (h : S A (wants Q E) s) :
    wpAny (model prog w) A (call (.builtin "dict.__eq__") [.ref l, v]) Q E s :=
  call_meets F.slot_dict_eq_refl ⟨_, at_l, rfl⟩ F.entry_dict_eq (F.args_dict_eq_2 _ _) own h
theorem eq_NoneType_dict (d : IsD s.heap l) (room : A.units < cLine) : EqAt A s .none (.ref l) false := by
  obtain ⟨dd, es, n, sl, at_l⟩ := d.at
  exact differs_flat (.inl rfl) (differs at_l (T := "NoneType") rfl (by decide) F.sub_dict_NoneType F.slot_NoneType_eq room (fun _ _ _ _ q => call_gives F.slot_NoneType_eq rfl F.entry_NoneType_eq (F.args_NoneType_eq_2 _ _) (NoneType___eq___none_ref_0 l) q)
    (fun _ _ _ _ q => dict_says (x := s) at_l away_none ⟨at_l, q⟩) fun _ _ _ _ q => wpAny_of_eq (rfl : isSame .none (.ref l) = pure false) q)
theorem eq_bool_dict (x : Bool) (d : IsD s.heap l) (room : A.units < cLine) : EqAt A s (.bool x) (.ref l) false := by
  obtain ⟨dd, es, n, sl, at_l⟩ := d.at
  exact differs_flat (.inr (.inl ⟨_, rfl⟩)) (differs at_l (T := "bool") rfl (by decide) F.sub_dict_bool F.slot_bool_eq room (fun _ _ _ _ q => call_meets F.slot_bool_eq rfl F.entry_int_eq (F.args_int_eq_2 _ _) (bool_away x) ⟨at_l, q⟩)
    (fun _ _ _ _ q => dict_says (x := s) at_l (away_bool x) ⟨at_l, q⟩) fun _ _ _ _ q => wpAny_of_eq (rfl : isSame (.bool x) (.ref l) = pure false) q)
theorem eq_int_dict (x : Int) (u : Tok) (d : IsD s.heap l) (room : A.units < cLine) : EqAt A s (.int x u) (.ref l) false := by
  obtain ⟨dd, es, n, sl, at_l⟩ := d.at
  exact differs_flat (.inr (.inr (.inl ⟨_, _, rfl⟩))) (differs at_l (typeIs_int s x u) (by decide) F.sub_dict_int F.slot_int_eq room (fun _ _ _ _ q => call_meets F.slot_int_eq (typeIs_int s x u) F.entry_int_eq (F.args_int_eq_2 _ _) (int_away x u) ⟨at_l, q⟩)
    (fun _ _ _ _ q => dict_says (x := s) at_l (away_int x u) ⟨at_l, q⟩) fun _ _ _ _ q => wpAny_of_eq (rfl : isSame (.int x u) (.ref l) = pure false) q)
theorem eq_str_dict (x : Str) (u : Tok) (d : IsD s.heap l) (room : A.units < cLine) : EqAt A s (.str x u) (.ref l) false := by
  obtain ⟨dd, es, n, sl, at_l⟩ := d.at
  exact differs_flat (.inr (.inr (.inr ⟨_, _, rfl⟩))) (differs at_l (typeIs_str s x u) (by decide) F.sub_dict_str F.slot_str_eq room (fun _ _ _ _ q => call_meets F.slot_str_eq (typeIs_str s x u) F.entry_str_eq (F.args_str_eq_2 _ _) (str_away x u) ⟨at_l, q⟩)
    (fun _ _ _ _ q => dict_says (x := s) at_l (away_str x u) ⟨at_l, q⟩) fun _ _ _ _ q => wpAny_of_eq (rfl : isSame (.str x u) (.ref l) = pure false) q)
theorem elsewhere {T : String} (t : T ≠ "dict") (at_b : RowAt T s.heap b its m de sm) (at_l : DictAt s.heap l es n dd sl) : b ≠ l := by
  rintro rfl
  have e := at_b.symm.trans at_l
  simp only [Option.some.injEq, Obj.mk.injEq, Value.type.injEq] at e
  exact t e.1
theorem eq_list_dict (p : s.heap.IsList b its) (d : IsD s.heap l) (room : A.units < cLine) : EqAt A s (.ref b) (.ref l) false := by
  obtain ⟨dd, es, n, sl, at_l⟩ := d.at
  obtain ⟨⟨_, de, _, sm⟩, at_b, rfl, m, rfl⟩ := p
  have apart := elsewhere (T := "list") (by decide) at_b at_l
  exact .of_refs apart (differs at_l ⟨_, at_b, rfl⟩ (by decide) F.sub_dict_list F.slot_list_eq room (fun _ _ _ _ q => call_meets F.slot_list_eq ⟨_, at_b, rfl⟩ F.entry_list_eq (F.args_list_eq_2 _ _) list_away ⟨at_l, at_b, q⟩)
    (fun _ _ _ _ q => dict_says (x := s) at_l away_list ⟨at_l, at_b, q⟩) fun _ _ _ _ q => wpAny_isSame_ref_other' apart at_b at_l (by simp) q)
theorem eq_tuple_dict (p : s.heap.IsTuple b its) (d : IsD s.heap l) (room : A.units < cLine) : EqAt A s (.ref b) (.ref l) false := by
  obtain ⟨dd, es, n, sl, at_l⟩ := d.at
  obtain ⟨⟨_, de, _, sm⟩, at_b, rfl, m, rfl⟩ := p
  have apart := elsewhere (T := "tuple") (by decide) at_b at_l
  exact .of_refs apart (differs at_l ⟨_, at_b, rfl⟩ (by decide) F.sub_dict_tuple F.slot_tuple_eq room (fun _ _ _ _ q => call_meets F.slot_tuple_eq ⟨_, at_b, rfl⟩ F.entry_tuple_eq (F.args_tuple_eq_2 _ _) tuple_away ⟨at_l, at_b, q⟩)
    (fun _ _ _ _ q => dict_says (x := s) at_l away_tuple ⟨at_l, at_b, q⟩) fun _ _ _ _ q => wpAny_isSame_ref_other' apart at_b at_l (by simp) q)
end
end DL
set_option Elab.async false
set_option linter.all false
set_option maxRecDepth 100000
set_option maxHeartbeats 4000000
namespace DL
open PySem PySem.Spec PyProof.Rows L2
variable [Tb]
open PySem.SeqAt
theorem reads_list {h : Heap} {v : Value} {xs : List PyData} {as : List Addr} (r : Reads h v (.list xs) as) : ∃ a vs bs, v = .ref a ∧ h.IsList a vs ∧ vs.size = xs.length ∧ ReadsAll h vs.toList xs bs := by
  cases r with
  | list at_a cl dt rs => exact ⟨_, _, _, rfl, ⟨_, at_a, cl, _, dt⟩, (Array.length_toList).symm.trans (ReadsAll.length _ _ _ rs), rs⟩
theorem reads_tuple {h : Heap} {v : Value} {xs : List PyData} {as : List Addr} (r : Reads h v (.tuple xs) as) : ∃ a vs bs, v = .ref a ∧ h.IsTuple a vs ∧ vs.size = xs.length ∧ ReadsAll h vs.toList xs bs := by
  cases r with
  | tuple at_a cl dt rs => exact ⟨_, _, _, rfl, ⟨_, at_a, cl, _, dt⟩, (Array.length_toList).symm.trans (ReadsAll.length _ _ _ rs), rs⟩
theorem eqAt_kinds {A : Around} {s : Shared} {a b : Value} {as bs : List Addr} (da db : PyData) (ra : Reads s.heap a da as) (rb : Reads s.heap b db bs) (lay : da.canLay0 = true) (room : A.units < cLine) (new : ¬ db.canLay0 = true)
    (other : (∀ xs ys, ¬ (da = .list xs ∧ db = .list ys)) ∧ ∀ xs ys, ¬ (da = .tuple xs ∧ db = .tuple ys)) : EqAt A s a b (PyData.eqv da db) := by
  cases rb with
  | none => exact absurd rfl new
  | bool => exact absurd rfl new
  | int => exact absurd rfl new
  | str y u => cases ra with
    | none => exact .none_str y u
    | bool x => exact .bool_str x y u
    | int x t => exact .int_str x t y u
    | str x t => exact .str_str x t y u
    | list h1 h2 h3 => exact .list_str y u ⟨_, h1, h2, _, h3⟩ room
    | tuple h1 h2 h3 => exact .tuple_str y u ⟨_, h1, h2, _, h3⟩ room
    | dict => exact absurd lay Bool.false_ne_true
  | list k1 k2 k3 _ => cases ra with
    | none => exact EqAt.none_list ⟨_, k1, k2, _, k3⟩ room
    | bool x => exact EqAt.bool_list x ⟨_, k1, k2, _, k3⟩ room
    | int x t => exact EqAt.int_list x t ⟨_, k1, k2, _, k3⟩ room
    | str x t => exact EqAt.str_list x t ⟨_, k1, k2, _, k3⟩ room
    | tuple h1 h2 h3 => exact EqAt.tuple_list ⟨_, h1, h2, _, h3⟩ ⟨_, k1, k2, _, k3⟩ room
    | list => exact absurd ⟨rfl, rfl⟩ (other.1 _ _)
    | dict => exact absurd lay Bool.false_ne_true
  | tuple k1 k2 k3 _ => cases ra with
    | none => exact EqAt.none_tuple ⟨_, k1, k2, _, k3⟩ room
    | bool x => exact EqAt.bool_tuple x ⟨_, k1, k2, _, k3⟩ room
    | int x t => exact EqAt.int_tuple x t ⟨_, k1, k2, _, k3⟩ room
    | str x t => exact EqAt.str_tuple x t ⟨_, k1, k2, _, k3⟩ room
    | list h1 h2 h3 => exact EqAt.list_tuple ⟨_, h1, h2, _, h3⟩ ⟨_, k1, k2, _, k3⟩ room
    | tuple => exact absurd ⟨rfl, rfl⟩ (other.2 _ _)
    | dict => exact absurd lay Bool.false_ne_true
  | dict k1 k2 k3 => cases ra with
    | none => exact eq_NoneType_dict ⟨_, _, _, k1, k2, k3⟩ room
    | bool x => exact eq_bool_dict x ⟨_, _, _, k1, k2, k3⟩ room
    | int x t => exact eq_int_dict x t ⟨_, _, _, k1, k2, k3⟩ room
    | str x t => exact eq_str_dict x t ⟨_, _, _, k1, k2, k3⟩ room
    | list h1 h2 h3 => exact eq_list_dict ⟨_, h1, h2, _, h3⟩ ⟨_, _, _, k1, k2, k3⟩ room
    | tuple h1 h2 h3 => exact eq_tuple_dict ⟨_, h1, h2, _, h3⟩ ⟨_, _, _, k1, k2, k3⟩ room
    | dict => exact absurd lay Bool.false_ne_true
def Pairwise2 (A : Around) (s : Shared) (vs us : Array Value) (xs ys : List PyData) : Prop := ∀ j (h1 : j < vs.size) (h2 : j < us.size), EqAt A s vs[j] us[j] (pairEq xs ys j)
theorem eqAt_lists {A : Around} {s : Shared} {l l' : Addr} {vs us : Array Value} {xs ys : List PyData} (apart : l ≠ l') (p : s.heap.IsList l vs) (p' : s.heap.IsList l' us) (n : vs.size = xs.length) (n' : us.size = ys.length) (room : A.units < cLine)
    (each : Pairwise2 A.in1 s vs us xs ys) : EqAt A s (.ref l) (.ref l') (PyData.eqvAll xs ys) := by
  refine EqAt.of_refs apart ?_
  by_cases same : xs.length = ys.length
  · have go := RcAt.lists p p' (n.trans (same.trans n'.symm)) room each
    rwa [n, eqvAll_same_length same] at go
  · rw [eqvAll_other_length same]
    exact RcAt.lists_lengths p p' (by rw [n, n']; simpa using same) room
theorem eqAt_tuples {A : Around} {s : Shared} {l l' : Addr} {vs us : Array Value} {xs ys : List PyData} (apart : l ≠ l') (p : s.heap.IsTuple l vs) (p' : s.heap.IsTuple l' us) (n : vs.size = xs.length) (n' : us.size = ys.length) (room : A.units < cLine)
    (each : Pairwise2 A.in1 s vs us xs ys) : EqAt A s (.ref l) (.ref l') (PyData.eqvAll xs ys) := by
  have go := RcAt.tuples p p' room each
  rw [n, n', eqvAll_eq] at go
  exact EqAt.of_refs apart go
theorem eqAt_rest {A : Around} {s : Shared} {a b : Value} {as bs : List Addr} {da db : PyData} (ra : Reads s.heap a da as) (rb : Reads s.heap b db bs) (lay : da.canLay0 = true) (room : A.units + da.depth < cLine)
    (other : (∀ xs ys, ¬ (da = .list xs ∧ db = .list ys)) ∧ ∀ xs ys, ¬ (da = .tuple xs ∧ db = .tuple ys)) : EqAt A s a b (PyData.eqv da db) := by
  by_cases told : db.canLay0 = true
  · exact eqAt_reads da db A s a b as bs ra rb lay told (by omega)
  · exact eqAt_kinds da db ra rb lay (by omega) told other
mutual
theorem eqAt_any : ∀ (da db : PyData) {A : Around} {s : Shared} {a b : Value} {as bs : List Addr}, Reads s.heap a da as → Reads s.heap b db bs → da.canLay0 = true → A.units + da.depth < cLine → EqAt A s a b (PyData.eqv da db)
  | .list xs, db, A, s, a, b, as, bs, ra, rb, lay, room => by
    rcases Classical.em (∃ ys, db = .list ys) with ⟨ys, rfl⟩ | no
    · obtain ⟨l, vs, _, rfl, p, n, rs⟩ := reads_list ra
      obtain ⟨l', us, _, rfl, p', n', rs'⟩ := reads_list rb
      by_cases e : l = l'
      · subst e
        cases Reads.unique (.list xs) (.list ys) _ _ _ lay ra rb
        rw [show PyData.eqv (.list xs) (.list xs) = true from eqvAll_refl xs lay]
        exact EqAt.same _
      · rw [PyData.depth] at room
        exact eqAt_lists e p p' n n' (by omega) fun j h1 h2 => eqAt_anys xs ys rs rs' lay (show A.units + 1 + _ < _ by omega) j h1 h2
    · exact eqAt_rest ra rb lay room ⟨fun _ ys z => no ⟨ys, z.2⟩, fun _ _ z => nomatch z.1⟩
  | .tuple xs, db, A, s, a, b, as, bs, ra, rb, lay, room => by
    rcases Classical.em (∃ ys, db = .tuple ys) with ⟨ys, rfl⟩ | no
    · obtain ⟨l, vs, _, rfl, p, n, rs⟩ := reads_tuple ra
      obtain ⟨l', us, _, rfl, p', n', rs'⟩ := reads_tuple rb
      by_cases e : l = l'
      · subst e
        cases Reads.unique (.tuple xs) (.tuple ys) _ _ _ lay ra rb
        rw [show PyData.eqv (.tuple xs) (.tuple xs) = true from eqvAll_refl xs lay]
        exact EqAt.same _
      · rw [PyData.depth] at room
        exact eqAt_tuples e p p' n n' (by omega) fun j h1 h2 => eqAt_anys xs ys rs rs' lay (show A.units + 1 + _ < _ by omega) j h1 h2
    · exact eqAt_rest ra rb lay room ⟨(fun _ _ z => nomatch z.1), fun _ ys z => no ⟨ys, z.2⟩⟩
  | .none, _, _, _, _, _, _, _, ra, rb, lay, room => eqAt_rest ra rb lay room ⟨(fun _ _ z => nomatch z.1), (fun _ _ z => nomatch z.1)⟩
  | .bool _, _, _, _, _, _, _, _, ra, rb, lay, room => eqAt_rest ra rb lay room ⟨(fun _ _ z => nomatch z.1), (fun _ _ z => nomatch z.1)⟩
  | .int _, _, _, _, _, _, _, _, ra, rb, lay, room => eqAt_rest ra rb lay room ⟨(fun _ _ z => nomatch z.1), (fun _ _ z => nomatch z.1)⟩
  | .str _, _, _, _, _, _, _, _, ra, rb, lay, room => eqAt_rest ra rb lay room ⟨(fun _ _ z => nomatch z.1), (fun _ _ z => nomatch z.1)⟩
  | .dict _, _, _, _, _, _, _, _, _, _, lay, _ => nomatch lay
theorem eqAt_anys : ∀ (xs ys : List PyData) {A : Around} {s : Shared} {vs us : List Value} {as bs : List Addr}, ReadsAll s.heap vs xs as → ReadsAll s.heap us ys bs → PyData.canLayAll0 xs = true → A.units + PyData.depthAll xs < cLine →
    ∀ j (h1 : j < vs.length) (h2 : j < us.length), EqAt A s vs[j] us[j] (pairEq xs ys j)
  | [], _, _, _, _, _, _, _, .nil, _, _, _, _, h1, _ => nomatch h1
  | _ :: _, [], _, _, _, _, _, _, _, .nil, _, _, _, _, h2 => nomatch h2
  | x :: xs, y :: ys, _, _, _, _, _, _, .cons r rs, .cons r' rs', lay, room, j, h1, h2 => by
    rw [PyData.canLayAll0, Bool.and_eq_true] at lay
    rw [PyData.depthAll] at room
    cases j with
    | zero => exact eqAt_any x y r r' lay.1 (by omega)
    | succ j => exact eqAt_anys xs ys rs rs' lay.2 (by omega) j (Nat.lt_of_succ_lt_succ h1) (Nat.lt_of_succ_lt_succ h2)
end
def pInX : P2 := fun x y R => match y with
  | .list ds => noO x = true ∧ SeqAt.shaped (.list ds) = true ∧ R (.bool (ds.any fun z => PyData.eqv z x))
  | .tuple ds => noO x = true ∧ SeqAt.shaped (.tuple ds) = true ∧ R (.bool (ds.any fun z => PyData.eqv z x))
  | _ => False
def pEqE : P2 := fun x y R => match x, y with
  | .tuple xs, .tuple [] => noOL xs = true ∧ R (.bool xs.isEmpty)
  | .list xs, .list [] => noOL xs = true ∧ R (.bool xs.isEmpty)
  | _, _ => False
def pNeE : P2 := fun x y R => match x, y with
  | .tuple xs, .tuple [] => noOL xs = true ∧ R (.bool (!xs.isEmpty))
  | .list xs, .list [] => noOL xs = true ∧ R (.bool (!xs.isEmpty))
  | _, _ => False
omit [Tb] in
@[simp ↓] theorem pEqE_t (xs : List PyData) (R : PyData → Prop) : pEqE (.tuple xs) (.tuple []) R = (noOL xs = true ∧ R (.bool xs.isEmpty)) := rfl
omit [Tb] in
@[simp ↓] theorem pEqE_l (xs : List PyData) (R : PyData → Prop) : pEqE (.list xs) (.list []) R = (noOL xs = true ∧ R (.bool xs.isEmpty)) := rfl
omit [Tb] in
@[simp ↓] theorem pNeE_t (xs : List PyData) (R : PyData → Prop) : pNeE (.tuple xs) (.tuple []) R = (noOL xs = true ∧ R (.bool (!xs.isEmpty))) := rfl
omit [Tb] in
@[simp ↓] theorem pNeE_l (xs : List PyData) (R : PyData → Prop) : pNeE (.list xs) (.list []) R = (noOL xs = true ∧ R (.bool (!xs.isEmpty))) := rfl
omit [Tb] in
@[simp ↓] theorem pInX_l (x : PyData) (ds : List PyData) (R : PyData → Prop) : pInX x (.list ds) R = (noO x = true ∧ SeqAt.shaped (.list ds) = true ∧ R (.bool (ds.any fun z => PyData.eqv z x))) := rfl
omit [Tb] in
@[simp ↓] theorem pInX_t (x : PyData) (ds : List PyData) (R : PyData → Prop) : pInX x (.tuple ds) R = (noO x = true ∧ SeqAt.shaped (.tuple ds) = true ∧ R (.bool (ds.any fun z => PyData.eqv z x))) := rfl
section
variable {X : Cx}
end
end DL
set_option Elab.async false
set_option linter.all false
set_option maxRecDepth 100000
set_option maxHeartbeats 4000000
namespace DL
open PySem PySem.Spec PyProof.Rows L2
variable [Tb]
def stC (x : PyData) (k : Str → Prop) : Prop := match x with
  | .str z => k z
  | _ => False
omit [Tb] in
@[simp ↓] theorem stC_s (z : Str) (k : Str → Prop) : stC (.str z) k = k z := rfl
def wUpper (w : DE) : DE := fun δ R => w δ fun o δ1 => use o δ1 fun x => stC x fun z => z.length ≤ 1000000 ∧ R (.d (.str (Txt.upper z))) δ1
omit [Tb] in
@[simp ↓] theorem wUpper_ap (w : DE) (δ : DS) (R : Opd → DS → Prop) : wUpper w δ R = (w δ fun o δ1 => use o δ1 fun x => stC x fun z => z.length ≤ 1000000 ∧ R (.d (.str (Txt.upper z))) δ1) := rfl
section
variable {X : Cx}
end
end DL
set_option Elab.async false
set_option linter.all false
set_option maxRecDepth 100000
set_option maxHeartbeats 4000000
namespace DL
open PySem PySem.Spec PyProof.Rows L2
variable [Tb]
section
variable {X : Cx}
def rev0D (x : PyData) (k : PyData → Prop) : Prop := match x with
  | .tuple ds => 1 ≤ ds.length ∧ k (.tuple (ds.drop 1).reverse)
  | _ => False
omit [Tb] in
@[simp ↓] theorem rev0D_t (ds : List PyData) (k : PyData → Prop) : rev0D (.tuple ds) k = (1 ≤ ds.length ∧ k (.tuple (ds.drop 1).reverse)) := rfl
def wRev0 (w : DE) : DE := fun δ R => w δ fun o δ1 => use o δ1 fun x => rev0D x fun z => R (.d z) δ1
omit [Tb] in
@[simp ↓] theorem wRev0_ap (w : DE) (δ : DS) (R : Opd → DS → Prop) : wRev0 w δ R = (w δ fun o δ1 => use o δ1 fun x => rev0D x fun z => R (.d z) δ1) := rfl
end
def gTL (r : DTGs) : DTG := fun x δ R => match x with
  | .list xs => r xs δ R
  | _ => False
omit [Tb] in
@[simp ↓] theorem gTL_l (r : DTGs) (xs : List PyData) (δ : DS) (R : DS → Prop) : gTL r (.list xs) δ R = r xs δ R := rfl
section
variable {X : Cx} {pos : Pos}
end
section
variable {X : Cx}
end
end DL
set_option Elab.async false
set_option linter.all false
set_option maxRecDepth 100000
set_option maxHeartbeats 4000000
namespace DL
open PySem PySem.Spec PyProof.Rows L2
variable [Tb]
def strsC (x : PyData) (k : List Str → Prop) (_u : Stop k) : Prop := ∃ ys : List Str, x = .list (ys.map PyData.str) ∧ k ys
theorem strs_one {a b : List Str} (h : a.map PyData.str = b.map PyData.str) : a = b :=
  List.map_inj_right (f := PyData.str) (fun _ _ e => PyData.str.inj e) |>.mp h
omit [Tb] in
@[simp ↓] theorem strsC_l (ys : List Str) (k : List Str → Prop) (u : Stop k) : strsC (.list (ys.map PyData.str)) k u = k ys :=
  propext ⟨fun ⟨_, e, h⟩ => strs_one (PyData.list.inj e) ▸ h, fun h => ⟨ys, rfl, h⟩⟩
def wJoinC (a : Str) (w : DE) : DE := fun δ R => w δ fun o δ1 => use o δ1 fun x => strsC x (fun ys => (ys.map (·.length)).sum + ys.length * a.length ≤ 1000000 ∧ R (.d (.str (Txt.join a ys))) δ1) .mk
omit [Tb] in
@[simp ↓] theorem wJoinC_ap (a : Str) (w : DE) (δ : DS) (R : Opd → DS → Prop) : wJoinC a w δ R = (w δ fun o δ1 => use o δ1 fun x => strsC x (fun ys => (ys.map (·.length)).sum + ys.length * a.length ≤ 1000000 ∧ R (.d (.str (Txt.join a ys))) δ1) .mk) := rfl
section
variable {X : Cx}
end
end DL
set_option Elab.async false
set_option linter.all false
set_option maxRecDepth 100000
set_option maxHeartbeats 4000000
namespace DL
open PySem PySem.Spec PyProof.Rows L2
variable [Tb]
def wSplitC (b : Str) (w : DE) : DE := fun δ R => w δ fun o δ1 => use o δ1 fun x => stC x fun z => z.length ≤ 1000000 ∧ R (.d (.list ((Txt.split z b).map PyData.str))) δ1
omit [Tb] in
@[simp ↓] theorem wSplitC_ap (b : Str) (w : DE) (δ : DS) (R : Opd → DS → Prop) : wSplitC b w δ R = (w δ fun o δ1 => use o δ1 fun x => stC x fun z => z.length ≤ 1000000 ∧ R (.d (.list ((Txt.split z b).map PyData.str))) δ1) := rfl
section
variable {X : Cx}
end
end DL
set_option Elab.async false
set_option linter.all false
set_option maxRecDepth 100000
set_option maxHeartbeats 4000000
namespace DL
open PySem PySem.Spec PyProof.Rows L2
variable [Tb]
def signs (z : Str) : List PyData := z.cps.toList.map fun c => .str ⟨#[c]⟩
def iStrD (w : DE) : DL := fun δ R => w δ fun o δ1 => use o δ1 fun x => stC x fun z => z.length ≤ 1000000 ∧ R (signs z) δ1
omit [Tb] in
@[simp ↓] theorem iStrD_ap (w : DE) (δ : DS) (R : List PyData → DS → Prop) : iStrD w δ R = (w δ fun o δ1 => use o δ1 fun x => stC x fun z => z.length ≤ 1000000 ∧ R (signs z) δ1) := rfl
section
variable {X : Cx} {tg : Expr}
end
end DL
set_option Elab.async false
set_option linter.all false
set_option maxRecDepth 100000
set_option maxHeartbeats 4000000
namespace DL
open PySem PySem.Spec PyProof.Rows L2
variable [Tb]
def repS (z : Str) (n : Nat) : Str := ⟨(List.replicate n z.cps).foldl (· ++ ·) #[]⟩
def pMulS : P2 := fun x y R => match x, y with
  | .str z, .int k => (2 ≤ k ∧ k ≤ 1000 ∧ 1 ≤ z.length ∧ z.length ≤ 1000) ∧ R (.str (repS z k.toNat))
  | _, _ => False
omit [Tb] in
@[simp ↓] theorem pMulS_si (z : Str) (k : Int) (R : PyData → Prop) : pMulS (.str z) (.int k) R = ((2 ≤ k ∧ k ≤ 1000 ∧ 1 ≤ z.length ∧ z.length ≤ 1000) ∧ R (.str (repS z k.toNat))) := rfl
section
variable {X : Cx}
end
end DL
set_option Elab.async false
set_option linter.all false
set_option maxRecDepth 100000
set_option maxHeartbeats 4000000
namespace DL
open PySem PySem.Spec PyProof.Rows L2
variable [Tb]
def obD (n : Str) (fs : List (Str × PyData)) : PyData := objD n fs
def putD1 (f : Str) (x : PyData) : List (Str × PyData) → List (Str × PyData)
  | [] => [(f, x)]
  | (g, y) :: r => if g = f then (g, x) :: r else (g, y) :: putD1 f x r
section
variable {K : PySem.W.Frag} {G : Hp}
def FldOk (K : PySem.W.Frag) (G : Hp) (ws : List (Str × V)) (fs : List (Str × PyData)) : Prop := ws.map (·.1) = fs.map (·.1) ∧ DnL K G (ws.map (·.2)) (fs.map (·.2))
theorem FldOk.nil : FldOk K G [] [] := ⟨rfl, .nil⟩
theorem FldOk.split {w : Str × V} {ws : List (Str × V)} {p : Str × PyData} {fs : List (Str × PyData)} (h : FldOk K G (w :: ws) (p :: fs)) : w.1 = p.1 ∧ Dn K G w.2 p.2 ∧ FldOk K G ws fs := by
  obtain ⟨h1, h2⟩ := h
  simp only [List.map_cons, List.cons.injEq] at h1 h2
  cases h2 with
  | cons a b => exact ⟨h1.1, a, h1.2, b⟩
theorem FldOk.join {w : Str × V} {ws : List (Str × V)} {p : Str × PyData} {fs : List (Str × PyData)} (h1 : w.1 = p.1) (h2 : Dn K G w.2 p.2) (h3 : FldOk K G ws fs) : FldOk K G (w :: ws) (p :: fs) := by
  refine ⟨?_, ?_⟩
  · simp only [List.map_cons, h1, h3.1]
  · exact .cons h2 h3.2
theorem FldOk.look {f : Str} {y : PyData} : ∀ {ws : List (Str × V)} {fs : List (Str × PyData)}, FldOk K G ws fs → fs.lookup f = some y → ∃ v, ws.lookup f = some v ∧ Dn K G v y
  | [], [], _, e => by cases e
  | [], _ :: _, h, _ => by cases h.1
  | _ :: _, [], h, _ => by cases h.1
  | (a, v) :: ws, (b, x) :: fs, h, e => by
    obtain ⟨h1, h2, h3⟩ := h.split
    have h1 : a = b := h1
    subst h1
    rw [List.lookup_cons] at e ⊢
    cases hb : f == a with
    | true => rw [hb] at e; cases e; exact ⟨v, rfl, h2⟩
    | false => rw [hb] at e; exact FldOk.look h3 e
theorem FldOk.none {f : Str} : ∀ {ws : List (Str × V)} {fs : List (Str × PyData)}, FldOk K G ws fs → fs.lookup f = none → ws.lookup f = none
  | [], [], _, _ => rfl
  | [], _ :: _, h, _ => by cases h.1
  | _ :: _, [], h, _ => by cases h.1
  | (a, v) :: ws, (b, x) :: fs, h, e => by
    obtain ⟨h1, _, h3⟩ := h.split
    have h1 : a = b := h1
    subst h1
    rw [List.lookup_cons] at e ⊢
    cases hb : f == a with
    | true => rw [hb] at e; cases e
    | false => rw [hb] at e; exact FldOk.none h3 e
theorem FldOk.put {f : Str} {v : V} {x : PyData} (hv : Dn K G v x) : ∀ {ws : List (Str × V)} {fs : List (Str × PyData)}, FldOk K G ws fs → FldOk K G (putF f v ws) (putD1 f x fs)
  | [], [], _ => .join rfl hv .nil
  | [], _ :: _, h => by cases h.1
  | _ :: _, [], h => by cases h.1
  | (a, u) :: ws, (b, y) :: fs, h => by
    obtain ⟨h1, h2, h3⟩ := h.split
    have h1 : a = b := h1
    subst h1
    unfold putF putD1
    split
    · exact .join rfl hv h3
    · exact .join rfl h2 (FldOk.put hv h3)
theorem FldOk.len {ws : List (Str × V)} {fs : List (Str × PyData)} (h : FldOk K G ws fs) : ws.length = fs.length := by
  have := congrArg List.length h.1
  simpa using this
end
def obC (x : PyData) (n : Str) (k : List (Str × PyData) → Prop) (_u : Stop k) : Prop := ∃ fs, x = obD n fs ∧ k fs
def fldC (x : PyData) (n f : Str) (k : PyData → Prop) (_u : Stop k) : Prop := ∃ fs y, x = obD n fs ∧ fs.lookup f = some y ∧ k y
def wFld (n f : Str) (w : DE) : DE := fun δ R => w δ fun o δ1 => use o δ1 fun x => fldC x n f (fun y => R (.d y) δ1) .mk
def ownC (c : Option Cell) (n : Str) (k : Addr → List (Str × PyData) → Prop) (_u : Stop k) : Prop := ∃ a fs, c = some (.ob a n fs) ∧ k a fs
def wFldO (i : Nat) (n f : Str) : DE := fun δ R => ownC δ[i]? n (fun _ fs => ∃ y, fs.lookup f = some y ∧ R (.d y) δ) .mk
def gA (i : Nat) (n f : Str) : DTG := fun x δ R => ownC δ[i]? n (fun a fs => fs.length < 900 ∧ R (δ.set i (.ob a n (putD1 f x fs)))) .mk
omit [Tb] in
@[simp ↓] theorem wFld_ap (n f : Str) (w : DE) (δ : DS) (R : Opd → DS → Prop) : wFld n f w δ R = (w δ fun o δ1 => use o δ1 fun x => fldC x n f (fun y => R (.d y) δ1) .mk) := rfl
omit [Tb] in
@[simp ↓] theorem wFldO_ap (i : Nat) (n f : Str) (δ : DS) (R : Opd → DS → Prop) : wFldO i n f δ R = ownC δ[i]? n (fun _ fs => ∃ y, fs.lookup f = some y ∧ R (.d y) δ) .mk := rfl
omit [Tb] in
@[simp ↓] theorem gA_ap (i : Nat) (n f : Str) (x : PyData) (δ : DS) (R : DS → Prop) : gA i n f x δ R = ownC δ[i]? n (fun a fs => fs.length < 900 ∧ R (δ.set i (.ob a n (putD1 f x fs)))) .mk := rfl
@[simp ↓] theorem ownC_some (a : Addr) (n : Str) (fs : List (Str × PyData)) (k : Addr → List (Str × PyData) → Prop) (u : Stop k) : ownC (some (.ob a n fs)) n k u = k a fs :=
  propext ⟨fun ⟨a', fs', e, h⟩ => by cases e; exact h, fun h => ⟨a, fs, rfl, h⟩⟩
theorem obD_inj {n : Str} {fs gs : List (Str × PyData)} (h : obD n fs = obD n gs) : fs = gs := by
  unfold obD at h
  simp only [PyData.dict.injEq, List.cons.injEq, true_and] at h
  have inj : ∀ {xs ys : List (Str × PyData)}, (xs.map fun p => (PyData.str p.1, p.2)) = (ys.map fun p => (PyData.str p.1, p.2)) → xs = ys := by
    intro xs
    induction xs with
    | nil => intro ys h; cases ys with | nil => rfl | cons y ys => cases h
    | cons x xs ih =>
      intro ys h
      cases ys with
      | nil => cases h
      | cons y ys =>
        simp only [List.map_cons, List.cons.injEq, Prod.mk.injEq, PyData.str.injEq] at h
        rw [ih h.2, Prod.ext h.1.1 h.1.2]
  exact inj h
@[simp ↓] theorem obC_of {n : Str} {fs : List (Str × PyData)} {k : List (Str × PyData) → Prop} {u : Stop k} : obC (obD n fs) n k u = k fs :=
  propext ⟨fun ⟨fs', e, h⟩ => by rw [obD_inj e]; exact h, fun h => ⟨fs, rfl, h⟩⟩
section
variable {X : Cx} {e : Expr} {f : Str} {pos : Pos} {n : Str} {C : Addr}
end
end DL
set_option Elab.async false
set_option linter.all false
set_option maxRecDepth 100000
set_option maxHeartbeats 4000000
namespace DL
open PySem PySem.Spec PyProof.Rows L2 StX
variable [Tb]
theorem RoomG.make {k : Nat} {A : Around} (r : RoomG (k + 1) A) (C : Addr) (us : List Value) (kw : List (Str × Value)) : RoomG k (A.under (.builtin "type.__call__" ⟨.ref C :: us, kw⟩)) :=
  ⟨r.rm.make C us kw, by
    simp only [Around.under, r.gd]
    rfl⟩
section
variable {X : Cx} {CX : CXT} {k : Nat} {f C : Addr} {fd : FuncData} {ps : List Str} {sp : Sp} {E : XK} {o e : Expr} {es : List Expr} {ta : TE} {t : TA} {m x : Str} {apos pos p : Pos}
end
section
variable {K : PySem.W.Frag} {B G H : Hp} {δ : DS} {σ : L2.St} {a C dx : Addr} {n : Str}
theorem opds_dn : ∀ {vs : List V} {xs : List PyData}, DnL K G vs xs → OpdsOk K G σ vs (xs.map Opd.d)
  | _, [], h => by cases h; exact .nil
  | _, _ :: _, h => by cases h with | cons a b => exact .cons a (opds_dn b)
theorem slots_d : ∀ xs : List PyData, slotsOf (xs.map Opd.d) = []
  | [] => rfl
  | _ :: xs => slots_d xs
theorem cells_d (xs : List PyData) : (xs.map Opd.d).map (cellOf δ) = xs.map Cell.d := by
  rw [List.map_map]
  rfl
end
def madeC (cs : List Cell) (n : Str) (k : List (Str × PyData) → Prop) (_u : Stop k) : Prop := ∃ a fs rest, cs = .ob a n fs :: rest ∧ k fs
@[simp ↓] theorem madeC_cons (a : Addr) (n : Str) (fs : List (Str × PyData)) (rest : List Cell) (k : List (Str × PyData) → Prop) (u : Stop k) : madeC (.ob a n fs :: rest) n k u = k fs :=
  propext ⟨fun ⟨a', fs', r', e, h⟩ => by cases e; exact h, fun h => ⟨a, fs, rest, rfl, h⟩⟩
def wMake (n : Str) (sp : DSp) (w : DA) : DE := fun δ R => w δ fun os δ1 => lkL os δ1 fun xs δ2 => ∀ a : Addr, ask sp (.ob a n [] :: xs.map Cell.d) (fun y cs => y = .none ∧ madeC cs n (fun fs => R (.d (obD n fs)) δ2) .mk) .mk
def wMeth (n m : Str) (sp : DSp) (w : DE) (wa : DA) : DE := fun δ R => w δ fun o δ1 => lk o δ1 fun x δ2 => obC x n (fun fs => fs.lookup m = none ∧ wa δ2 fun os δ3 => lkL os δ3 fun xs δ4 => ask sp (.d x :: xs.map Cell.d) (fun y _ => R (.d y) δ4) .mk) .mk
omit [Tb] in
@[simp ↓] theorem wMake_ap (n : Str) (sp : DSp) (w : DA) (δ : DS) (R : Opd → DS → Prop) : wMake n sp w δ R = (w δ fun os δ1 => lkL os δ1 fun xs δ2 => ∀ a : Addr, ask sp (.ob a n [] :: xs.map Cell.d) (fun y cs => y = .none ∧ madeC cs n (fun fs => R (.d (obD n fs)) δ2) .mk) .mk) := rfl
omit [Tb] in
@[simp ↓] theorem wMeth_ap (n m : Str) (sp : DSp) (w : DE) (wa : DA) (δ : DS) (R : Opd → DS → Prop) : wMeth n m sp w wa δ R = (w δ fun o δ1 => lk o δ1 fun x δ2 => obC x n (fun fs => fs.lookup m = none ∧ wa δ2 fun os δ3 => lkL os δ3 fun xs δ4 => ask sp (.d x :: xs.map Cell.d) (fun y _ => R (.d y) δ4) .mk) .mk) := rfl
section
variable {X : Cx} {k : Nat} {f C : Addr} {fd : FuncData} {ps : List Str} {sp : DSp} {o e : Expr} {es : List Expr} {w : DE} {wa : DA} {n m x : Str} {apos pos p : Pos}
end
end DL
set_option Elab.async false
set_option linter.all false
set_option maxRecDepth 100000
set_option maxHeartbeats 4000000
namespace DL
open PySem PySem.Spec PyProof.Rows L2 NdefX

abbrev lamF (qual : Str) (params : Arguments) (scope : Scope) (cl : List (Str × Addr)) (c : Addr) : NF := ⟨"<lambda>", qual ++ "<lambda>", params, [], scope, cl, c⟩
abbrev lamO (F : NF) (body : Expr) (pm ctv : Value) : Obj := PySem.W.kla_obj F.name F.qual F.params body F.scope F.cl pm F.c ctv
abbrev LamB (F : NF) (body : Expr) (ps : List Str) : Prop := ∀ (pm cv ctv : Value) (us : List Value), us.length = ps.length → bindArgs (PySem.W.kla_fn F.name F.qual F.params body F.scope F.cl pm cv ctv) ⟨us, []⟩ = pure (ps.zip us)
section
variable {P : Program} {w : World} {K : PySem.W.Frag} {mg : Str → Option Value} {base : Heap} {N ps fr : List Str} {F : NF} {f : Addr} {k : Nat} {body : Expr} {tb : TE}
theorem cells_on {fs : List Addr} {H H' : Hp} {h h' : Heap} {cl : List (Str × Addr)} {ws : List (Option V)} (C : CellsAt cl fr ws h H) (u : Un fs [] H H' h h') : CellsAt cl fr ws h' H' := by
  have on : ∀ {c : Addr} {v : Option Value}, H c = none → h.IsCell c v → h'.IsCell c v := fun {c v} n ⟨o, ho, hd⟩ => by
    obtain ⟨sl, e⟩ := u.any ho n (List.not_mem_nil)
    exact ⟨_, e, hd⟩
  refine ⟨C.len, fun y c e => ?_, C.inj, fun i y e => ?_⟩
  · obtain ⟨n, v, o, ho, hd⟩ := C.all y c e
    exact ⟨u.free c o ho n (List.not_mem_nil), v, on n ⟨o, ho, hd⟩⟩
  · obtain ⟨c, hc, hv⟩ := C.has i y e
    refine ⟨c, hc, fun v ev => ?_⟩
    obtain ⟨z, r, q⟩ := hv v ev
    exact ⟨z, r, on (C.all y c hc).1 q⟩
theorem code_lam {A : Around} {outer : List Env} {s : Shared} {H : Hp} {us : List Value} {vs : List V} {ws : List (Option V)} {pm ctv : Value} {Q : VK} (S : NScope N ps fr F.scope) (room : RoomG (k + 1) A) (e0 : Env0 P w K mg base A outer s H)
    (ho : s.heap.get? f = some (lamO F body pm ctv)) (hc : H F.c = some (LamX.CodeO F.c F.qual)) (C : CellsAt F.cl fr ws s.heap H) (r : Vals vs us) (hl : vs.length = ps.length) (hb : LamB F body ps)
    (hbody : PE (ncx CX0 P w K mg base N F f A outer s H E0) body tb) (h : tb (startF N vs ws) H Q) :
    codeAny (model P w) A (.call (.ref f) ⟨us, []⟩) (CR CX0 outer P w H s Q E0) s := by
  have lim : s.heap.NoLimit := e0.mod.nolimit.keeps fun b o e => (e0.bs b o e).1
  refine PySem.W.kla_callFunE room.rm.depth ho rfl S.co S.gen rfl (codeO_at e0.hok hc) ?_
  rw [hb _ _ _ us (r.length ▸ hl)]
  refine wpAny_pure (wpAny_newFunctionEnv S.nocell (fun ⟨n, _⟩ hy => S.par n (List.of_mem_zip hy).1) (fun h₁ hns hsb => ⟨lim.fresh _ hsb, ?_⟩) S.kind)
  show codeAny _ _ (.expr body (envF F f s.heap.objs.size)) _ _
  have kp : ∀ b o, s.heap.get? b = some o → h₁.get? b = some o := fun b o e => hsb.extBut b o (Nat.ne_of_lt (Heap.lt_size e)) (Heap.get?_push_of_some _ e)
  have I := inv_startN (CX := CX0) (E := E0) (F := F) (f := f) (tk := s.toks + (ps.zip us).length) S room.rm.hd e0 hl r C hns kp
  refine PySem.W.kla_codeExpr (wpAny_mono (hbody.run [] _ (startF N vs ws) H Q I h) ?_ fun _ _ z => z)
  rintro u z ⟨v, H', J, rv, q⟩
  exact ⟨v, H', J.os, J.bare, J.base, J.hok, rv, q⟩
end
structure LamAt (Z : Cx) (ps fr N : List Str) (F : NF) (f : Addr) (body : Expr) (ws : List (Option V)) : Prop where
  sc : NScope N ps fr F.scope
  obj : ∃ pm ctv, Z.s_0.heap.get? f = some (lamO F body pm ctv)
  new : Z.H_0 f = none
  nfs : f ∉ Z.fs
  ex : Z.ex = []
  cells : CellsAt F.cl fr ws Z.s_0.heap Z.H_0
  bind : LamB F body ps
section
variable {Z : Cx} {ps fr N : List Str} {F : NF} {f : Addr} {body : Expr} {ws : List (Option V)} {k i : Nat} {a : Str} {e : Expr} {es : List Expr} {ta : TA} {tb : TE} {p pos : Pos}
end
end DL
set_option Elab.async false
set_option linter.all false
set_option maxRecDepth 100000
set_option maxHeartbeats 4000000
namespace DL
open PySem PySem.Spec PyProof.Rows L2 NdefX
variable [Tb]
def tlOf (bw : DE) (n m : Nat) (ds : List PyData) (xs : List PyData) (k : PyData → Prop) : Prop := xs.length = m ∧ bw (start0 n ((xs ++ ds).map Cell.d)) fun o δ' => lk o δ' fun y _ => k y
def wAct (i : Nat) (f : Addr) (m : Hp) (tl : List PyData → (PyData → Prop) → Prop) (wa : DA) : DE := fun δ R => δ[i]? = some (.fv f m) ∧ wa δ fun os δ1 => lkL os δ1 fun xs δ2 => tl xs fun y => R (.d y) δ2
omit [Tb] in
@[simp ↓] theorem wAct_ap (i : Nat) (f : Addr) (m : Hp) (tl : List PyData → (PyData → Prop) → Prop) (wa : DA) (δ : DS) (R : Opd → DS → Prop) : wAct i f m tl wa δ R = (δ[i]? = some (.fv f m) ∧ wa δ fun os δ1 => lkL os δ1 fun xs δ2 => tl xs fun y => R (.d y) δ2) := rfl
section
variable {K : PySem.W.Frag} {B G H : Hp} {δ : DS} {σ : L2.St}
theorem startF_eq {N : List Str} {vs wv : List V} : startF N vs (wv.map some) = L2.start N (vs ++ wv) := by
  unfold startF L2.start
  rw [List.map_append, List.append_assoc, List.length_append, List.length_map, Nat.sub_sub]
theorem Rel.bare (R : Rel K B G δ σ H) : Rel K B G [] [] H :=
  ⟨rfl, R.sg, R.sb, R.dj, fun i c o e => by simp at e, fun i j c c' a e => by simp at e, fun i c a e => by simp at e, R.tt⟩
theorem Rel.consFv {f : Addr} {m : Hp} (R : Rel K B G δ σ H) (h : Same m G) : Rel K B G (.fv f m :: δ) (some (.ref f) :: σ) H := by
  refine ⟨by simp [R.len], R.sg, R.sb, R.dj, fun i c o e1 e2 => ?_, fun i j c c' a e1 e2 m1 m2 => ?_, fun i c a e m => ?_, R.tt⟩
  · cases i with
    | zero => cases e1; cases e2; exact ⟨rfl, h⟩
    | succ i => exact R.ok i c o e1 e2
  · cases i with
    | zero => cases e1; cases m1
    | succ i =>
      cases j with
      | zero => cases e2; cases m2
      | succ j => exact congrArg _ (R.ap i j c c' a e1 e2 m1 m2)
  · cases i with
    | zero => cases e; cases m
    | succ i => exact R.fr i c a e m
theorem Rel.lam {H1 : Hp} {c : Addr} {q : Str} (R : Rel K B G δ σ H) (e : LamX.ExtN H H1) (t : LamX.Tabs Tb.T H1) (hc : H1 c = some (LamX.CodeO c q)) : ∃ G1, Same G G1 ∧ G1 c = some (LamX.CodeO c q) ∧ Rel K B G1 δ σ H1 := by
  have sg : ∀ a o, G a = some o → H1 a = some o := fun a o q => e a o (R.sg a o q) (R.tt.n.g a o q)
  have sb : ∀ a o, B a = some o → H1 a = some o := fun a o q => e a o (R.sb a o q) (R.tt.n.b a o q).1
  have own : ∀ {i : Nat} {cl : Cell} {a : Addr}, δ[i]? = some cl → a ∈ cl.fp → H1 a = H a := fun {i cl a} e1 m => by
    obtain ⟨o, _, ok⟩ := R.at e1
    obtain ⟨x, ex⟩ := cell_tr ok m
    rw [ex]
    exact e a x ex (cell_te ok m x ex).1
  have bc : B c = none := by
    cases q : B c with
    | none => rfl
    | some o =>
      have := sb c o q
      rw [hc] at this
      cases this
      exact absurd rfl ((R.tt.n.b c _ q).2.1 _)
  have sG : Same G (upd G c (LamX.CodeO c q)) := fun a o h => by
    by_cases z : a = c
    · subst z
      rw [upd_same, ← sg a o h, hc]
    · rw [upd_ne z]
      exact h
  refine ⟨upd G c (LamX.CodeO c q), sG, upd_same, R.len, fun a o h => ?_, sb, fun a => ?_, fun i cl o e1 e2 => ?_, R.ap, fun i cl a e1 m => ?_, ⟨t, R.tt.n.updG fun ps z => LamX.codeO_ne ps z⟩⟩
  · by_cases z : a = c
    · subst z
      rw [upd_same] at h
      cases h
      exact hc
    · rw [upd_ne z] at h
      exact sg a o h
  · by_cases z : a = c
    · subst z
      exact .inr bc
    · rw [upd_ne z]
      exact R.dj a
  · exact (R.ok i cl o e1 e2).stay sG fun b hb => own e1 hb
  · obtain ⟨f1, f2⟩ := R.fr i cl a e1 m
    refine ⟨?_, f2⟩
    rw [upd_ne fun z => ?_]
    · exact f1
    · subst z
      obtain ⟨o, _, ok⟩ := R.at e1
      obtain ⟨x, ex⟩ := cell_tr ok m
      have := own e1 m
      rw [hc, ex] at this
      cases this
      exact absurd rfl ((cell_te ok m _ ex).2.1 _)
end
section
variable {Z : Cx} {ps fr N : List Str} {F : NF} {f : Addr} {body : Expr} {wv : List V} {ds : List PyData} {k i : Nat} {m : Hp} {a : Str} {e : Expr} {es : List Expr} {wa : DA} {bw : DE} {p pos : Pos}
end
end DL
set_option Elab.async false
set_option linter.all false
set_option maxRecDepth 100000
set_option maxHeartbeats 4000000
namespace DL
open PySem PySem.Spec PyProof.Rows L2 NdefX
variable [Tb]
abbrev LTl := List PyData → (PyData → Prop) → Prop
abbrev LSp := LTl → List PyData → (PyData → Prop) → Prop
abbrev takerX (P : Program) (w : World) (K : PySem.W.Frag) (mg : Str → Option Value) (base : Heap) (N : List Str) (qual : Str) (sc : Scope) (g : Addr) (cd : Value) (A : Around) (outer : List Env) (s : Shared) (H : Hp) : Cx := (cxOf CX0 P w K mg base N qual sc g cd A outer s H E0).nox
def Acts (Z : Cx) (f : Addr) (m : Hp) (tl : LTl) : Prop := ∀ (i : Nat) (a : Str) (e : Expr) (es : List Expr) (wa : DA) (p pos : Pos), Z.N[i]? = some a → Vis Z.env.scope a → JA Z (e :: es) wa → (a == ("__debug__" : Str)) = false → (a == ("__classdict__" : Str)) = false →
  starEach (e :: es) Z.env = (false, eval e Z.env) :: starEach es Z.env → (backTo pos (starEach es Z.env)).any (·.1) = false → JE Z (.Call (.Name a p) (e :: es) [] pos) (wAct i f m tl wa)
theorem Acts.je {Z : Cx} {f : Addr} {m : Hp} {tl : LTl} (h : Acts Z f m tl) {i : Nat} {a : Str} {e : Expr} {es : List Expr} {wa : DA} {p pos : Pos} (hN : Z.N[i]? = some a) (hv : Vis Z.env.scope a) (ha : JA Z (e :: es) wa) (hd : (a == ("__debug__" : Str)) = false := by decide) (hcd : (a == ("__classdict__" : Str)) = false := by decide)
    (he : starEach (e :: es) Z.env = (false, eval e Z.env) :: starEach es Z.env := by rfl) (hpl : (backTo pos (starEach es Z.env)).any (·.1) = false := by rfl) : JE Z (.Call (.Name a p) (e :: es) [] pos) (wAct i f m tl wa) := h i a e es wa p pos hN hv ha hd hcd he hpl
structure FnL (P : Program) (w : World) (K : PySem.W.Frag) (mg : Str → Option Value) (base : Heap) (k : Nat) (g : Addr) (fd : FuncData) (ps : List Str) (sp : LSp) : Prop where
  len : ∀ tl xs R, sp tl xs R → xs.length + 1 = ps.length
  run : ∀ (A : Around) (outer : List Env) (s : Shared) (H : Hp) (args : Args) (f : Addr) (us : List Value) (vs : List V) (m : Hp) (tl : LTl) (xs : List PyData) (R : PyData → Prop) (B G : Hp) (Q : VK), RoomG k A → Env0 P w K mg base A outer s H → BindsTo s fd args (ps.zip (.ref f :: us)) → Vals vs us →
    Rel K B G (.fv f m :: xs.map Cell.d) ((V.ref f :: vs).map some) H → (∀ (N : List Str) (qual : Str) (sc : Scope) (cd : Value), Acts (takerX P w K mg base N qual sc g cd A outer s H) f m tl) → sp tl xs R →
    (∀ v H' G' y, R y → Same G G' → Rel K B G' [] [] H' → Dn K G' v y → Q v H') → codeAny (model P w) A (.call (.ref g) args) (CR CX0 outer P w H s Q E0) s
section
variable {P : Program} {w : World} {K : PySem.W.Frag} {mg : Str → Option Value} {base : Heap}
theorem FnL.mono {j k : Nat} {g : Addr} {fd : FuncData} {ps : List Str} {sp : LSp} (F : FnL P w K mg base j g fd ps sp) (h : j ≤ k) : FnL P w K mg base k g fd ps sp :=
  ⟨F.len, fun A outer s H args f us vs m tl xs R B G Q hr => F.run A outer s H args f us vs m tl xs R B G Q (hr.mono h)⟩
end
section
variable {P : Program} {w : World} {K : PySem.W.Frag} {mg : Str → Option Value} {base : Heap}
theorem okDc {x qual : Str} {st : Stmt} {f c : Addr} {fd : FuncData} {N ps : List Str} {k : Nat} {sp : DSp} {wb : DTS} (F : Fun K x qual st f fd) (hc : fd.code = .ref c) (S : FnScope N ps (defScope st)) (dl : ∀ cs R, sp cs R → cs.length = ps.length)
    (body : ∀ (A : Around) (outer : List Env) (s : Shared) (H : Hp) (E : XK), RoomG k (A.deeper (envOfC qual (defScope st) s.heap.objs.size f (.ref c))) → JSs (cxOf CX0 P w K mg base N qual (defScope st) f (.ref c) A outer s H E).nox (defBody st) wb)
    (rd : ∀ cs R, sp cs R → wb (endsOf cs R) (start0 N.length cs)) : FnG P w K mg base CX0 (k + 1) f fd ps (liftSp K sp) := by
  obtain ⟨oc, od, kV, doc, pm, an, cdv, ct, osl, rfl, lk, hcd⟩ := F.ex
  obtain rfl : cdv = .ref c := hc
  refine fnG_of lk hcd S (fun vs H Q E ⟨B, G, cs, R, rel, hs, _⟩ => by rw [← dl cs R hs, ← rel.len, List.length_map]) fun A outer s H vs Q E hr ⟨B, G, cs, R, rel, hs, k⟩ => ?_
  refine ⟨_, (body A outer s H E hr).nox, B, G, _, endsOf cs R, rel_start rel, rd cs R hs, ?_⟩
  exact ⟨fun σ' H' G' δ' ⟨io, r⟩ sG rel' => k _ H' G' _ _ r sG (rel_end rel rel' sG io) .non, fun v σ' H' G' x δ' ⟨io, r⟩ sG rel' dn => k v H' G' x _ r sG (rel_end rel rel' sG io) dn, fun _ _ _ _ h => h.elim, fun _ _ _ _ h => h.elim⟩
end
def capC1 (c : Option Cell) (k : PyData → Prop) (_u : Stop k) : Prop := ∃ x, c = some (.d x) ∧ k x
def capC : List Nat → DS → (List PyData → Prop) → Prop
  | [], _, k => k []
  | j :: js, δ, k => capC1 δ[j]? (fun x => capC js δ fun ds => k (x :: ds)) .mk
omit [Tb] in
@[simp ↓] theorem capC1_d (x : PyData) (k : PyData → Prop) (u : Stop k) : capC1 (some (.d x)) k u = k x := propext ⟨fun ⟨y, e, h⟩ => by cases e; exact h, fun h => ⟨x, rfl, h⟩⟩
omit [Tb] in
@[simp ↓] theorem capC_nil (δ : DS) (k : List PyData → Prop) : capC [] δ k = k [] := rfl
omit [Tb] in
@[simp ↓] theorem capC_cons (j : Nat) (js : List Nat) (δ : DS) (k : List PyData → Prop) : capC (j :: js) δ k = capC1 δ[j]? (fun x => capC js δ fun ds => k (x :: ds)) .mk := rfl
def askL (sp : LSp) (tl : LTl) (xs : List PyData) (R : PyData → Prop) (_u : Stop R) : Prop := sp tl xs R
def wLam (js : List Nat) (n m : Nat) (bw : DE) (sp : LSp) (wa : DA) : DE := fun δ R => wa δ fun os δ1 => lkL os δ1 fun xs δ2 => capC js δ2 fun ds => askL sp (tlOf bw n m ds) xs (fun y => R (.d y) δ2) .mk
omit [Tb] in
@[simp ↓] theorem wLam_ap (js : List Nat) (n m : Nat) (bw : DE) (sp : LSp) (wa : DA) (δ : DS) (R : Opd → DS → Prop) : wLam js n m bw sp wa δ R = (wa δ fun os δ1 => lkL os δ1 fun xs δ2 => capC js δ2 fun ds => askL sp (tlOf bw n m ds) xs (fun y => R (.d y) δ2) .mk) := rfl
omit [Tb] in
theorem askL_of {sp : LSp} {tl : LTl} {xs : List PyData} {R : PyData → Prop} {u : Stop R} (h : sp tl xs R) : askL sp tl xs R u := h
section
variable {K : PySem.W.Frag} {B G H : Hp} {δ : DS} {σ : L2.St}
theorem cap_ok (R : Rel K B G δ σ H) : ∀ {js : List Nat} {k : List PyData → Prop}, capC js δ k → ∃ (wv : List V) (ds : List PyData), js.map (slotAt σ) = wv.map some ∧ DnL K G wv ds ∧ k ds
  | [], k, h => ⟨[], [], rfl, .nil, h⟩
  | j :: js, k, h => by
    obtain ⟨x, e, h⟩ := h
    obtain ⟨wv, ds, e2, dn, hk⟩ := cap_ok R h
    obtain ⟨o, hσ, v, rfl, dv⟩ := R.at e
    exact ⟨v :: wv, x :: ds, by rw [List.map_cons, List.map_cons, e2, slotAt_of hσ], .cons dv dn, hk⟩
end
section
variable {X : Cx} {k j : Nat} {g c P : Addr} {fd : FuncData} {ps lps fr N : List Str} {sp : LSp} {x : Str} {params : Arguments} {body e : Expr} {es : List Expr} {scope : Scope} {js : List Nat} {bw : DE} {wa : DA} {lpos p pos : Pos}
end
end DL
set_option Elab.async false
set_option linter.all false
set_option maxRecDepth 100000
set_option maxHeartbeats 4000000
namespace DL
open PySem PySem.Spec PyProof.Rows L2
noncomputable def tabH (K : PySem.W.Frag) (a : Addr) (vs : List Value) (ns : List Int) (cs : List (Addr × Addr)) : Hp := by
  classical
  exact fun b => if b ∈ cs.map Prod.snd then some (.tbl #[]) else scrH K a vs ns b
structure Tabled (K : PySem.W.Frag) (h : Heap) (cs : List (Addr × Addr)) : Prop where
  code : ∀ p ∈ cs, PySem.W.CodeHd h p.1 p.2
  tab : ∀ p ∈ cs, h.get? p.2 = some (PySem.W.tabObj #[])
  off : ∀ p ∈ cs, K.lookup p.2 = none
abbrev OneArgT (P : Program) (w : World) (K : PySem.W.Frag) (mg : Str → Option Value) (k : Nat) (fa : Addr) (x : Str) (sp : Sp) (cs : List (Addr × Addr)) (fd : FuncData) : Prop :=
  (∀ (s : Shared) (u : Value), BindsTo s fd ⟨[u], []⟩ [(x, u)]) ∧ ∀ base : Heap, K.In base → base.Ns mainGlobals mg → (∀ p ∈ cs, LamX.TabB base mg p.1 p.2) → FnG P w K mg base CX0 k fa fd [x] sp
theorem lawT {P : Program} {w : World} {K : PySem.W.Frag} {mg : Str → Option Value} {k : Nat} {fa a : Addr} {fd : FuncData} {x : Str} {sp : Sp} {s₁ : Shared} {vs : List Value} {ns : List Int} {cs : List (Addr × Addr)}
    (B : Began K mg s₁.heap) (hg : s₁.gens = #[]) (S : Script s₁.heap a vs ns) (Y : Tabled K s₁.heap cs) (hm : ∃ (bm : Addr) (ob : Obj), mg "__builtins__" = some (.ref bm) ∧ bm ≠ builtinsNs ∧ s₁.heap.get? bm = some ob ∧ ob.cls = .type "module" ∧ ob.dict = some builtinsNs ∧ ob.data = .plain)
    (hr : Room k callerA) (F : OneArgT P w K mg k fa x sp cs fd) (hsp : ∀ H : Hp, (∀ p ∈ cs, H p.2 = some (.tbl #[])) → SqL K H a (ns.map V.int) → sp [.ref a] H (fun v _ => v = .bl true) fun _ _ _ => False) :
    codeAny (model P w) callerA (.call (.ref fa) ⟨[.ref a], []⟩) (fun r z => r = .ok (.ret (.bool true)) ∧ OldK s₁.heap z.heap ∧ z.os = s₁.os ∧ AllBare z.gens) s₁ := by
  obtain ⟨KX, hns, ⟨mb, hb, hbb⟩, hlim⟩ := B
  obtain ⟨ha, hi, hl⟩ := S
  obtain ⟨hbind, F⟩ := F
  have rv := vals_ints hi
  have isT : ∀ {b : Addr}, b ∈ cs.map Prod.snd → s₁.heap.get? b = some (PySem.W.tabObj #[]) := fun h => by
    obtain ⟨p, hp, rfl⟩ := List.mem_map.mp h
    exact Y.tab p hp
  have aT : a ∉ cs.map Prod.snd := fun h => by
    have := isT h
    rw [ha] at this
    cases this
  obtain ⟨T, eT⟩ : ∃ T, tabH K a vs ns cs = T := ⟨_, rfl⟩
  have onT : ∀ {b : Addr}, b ∈ cs.map Prod.snd → T b = some (.tbl #[]) := fun h => by rw [← eT]; unfold tabH; exact if_pos h
  have offT : ∀ {b : Addr}, b ∉ cs.map Prod.snd → T b = scrH K a vs ns b := fun h => by rw [← eT]; unfold tabH; exact if_neg h
  have cases_ : ∀ {b : Addr} {u : HO}, T b = some u → (b ∈ cs.map Prod.snd ∧ u = .tbl #[]) ∨ (b = a ∧ K.lookup a = none ∧ u = .frz { cls := .type "list", data := .seq vs.toArray } (.lst (ns.map V.int))) := fun {b u} h => by
    by_cases m : b ∈ cs.map Prod.snd
    · rw [onT m] at h
      cases h
      exact .inl ⟨m, rfl⟩
    · rw [offT m] at h
      exact .inr (scrH_some h)
  have reads : SqL K T a (ns.map V.int) := by
    cases hk : K.lookup a with
    | none => exact .inl (.inr ⟨_, by rw [offT aT]; exact scrH_at hk⟩)
    | some o =>
      have e := KX a o hk
      rw [ha] at e
      cases e
      exact .inr ⟨_, vs.toArray, _, hk, rfl, rfl, rfl, by rw [List.size_toArray, hi.length]; exact hl, by simpa using rv⟩
  have hok : HOk P w T s₁.heap := fun b u q => by
    rcases cases_ q with ⟨m, rfl⟩ | ⟨rfl, _, rfl⟩
    · exact isT m
    · exact ⟨ha, (List.length_map (as := ns) V.int).symm ▸ hl, vs, _, rv, ha⟩
  have free : ∀ {b : Addr} {o : Obj}, s₁.heap.get? b = some o → (∀ vs n, o.data ≠ .seq vs n) → o.data ≠ .fields #[] → T b = none := fun {b o} e d d2 => by
    cases q : T b with
    | none => rfl
    | some u =>
      rcases cases_ q with ⟨m, _⟩ | ⟨rfl, _, _⟩
      · rw [isT m] at e
        cases e
        exact absurd rfl d2
      · rw [ha] at e
        cases e
        exact absurd rfl (d _ _)
  have names : ∀ {b : Addr} {m : Str → Option Value}, s₁.heap.Ns b m → (hidT s₁.heap T).Ns b m := fun {b m} ⟨o, es, ep, e, d, r⟩ =>
    ⟨o, es, ep, hidT_get e (free e (fun _ _ z => by rw [d] at z; cases z) fun z => by rw [d] at z; cases z), d, r⟩
  have kIn : K.In (hidT s₁.heap T) := fun b o e => hidT_get (KX b o e) (by
    cases q : T b with
    | none => rfl
    | some u =>
      rcases cases_ q with ⟨m, _⟩ | ⟨rfl, h2, _⟩
      · obtain ⟨p, hp, rfl⟩ := List.mem_map.mp m
        rw [Y.off p hp] at e
        cases e
      · rw [h2] at e
        cases e)
  have md : Mod K mg (hidT s₁.heap T) := ⟨kIn, names hns, ⟨mb, names hb, hbb⟩, let ⟨mc, h1, h2⟩ := hlim; ⟨mc, names h1, h2⟩⟩
  have tabs : ∀ p ∈ cs, LamX.TabB (hidT s₁.heap T) mg p.1 p.2 := fun p hp => by
    have tp := Y.tab p hp
    obtain ⟨o, us, file, tf, flags, tg, inF, text, tt, e, r1, r2, r3, rest⟩ := Y.code p hp
    obtain ⟨bm, ob, b1, b2, b3, b4, b5, b6⟩ := hm
    obtain ⟨on, es, ep, en, dn, _⟩ := id hns
    refine ⟨⟨o, us, file, tf, flags, tg, inF, text, tt, hidT_get e (free e (fun _ _ z => by rw [r2] at z; cases z) fun z => ?_), r1, r2, r3, rest⟩, ⟨bm, ob, b1, b2, fun q => ?_, fun q => ?_, hidT_get b3 (free b3 (fun _ _ z => by rw [b6] at z; cases z) fun z => by rw [b6] at z; cases z), b4, b5, b6⟩, fun q => ?_⟩
    · rw [r2] at z
      cases z
      simp at r3
    · rw [q, en] at b3
      cases b3
      rw [dn] at b6
      cases b6
    · rw [q, tp] at b3
      cases b3
      cases b6
    · rw [q, tp] at en
      cases en
      cases dn
  have env : Env0 P w K mg (hidT s₁.heap T) callerA [] s₁ T :=
    { frames := rfl, mod := md, bs := fun b o e => of_hidT e, bsz := Nat.le_of_eq (hidT_size _ _), funs := trivial, frf := fun b hb => (nomatch (show b ∈ ([] : List Addr) from hb)), hok := hok, bare := .of_eq hg }
  have run := (F _ kIn (names hns) tabs).run callerA [] s₁ T ⟨[.ref a], []⟩ [.ref a] [.ref a] _ _ (roomG_caller hr) env (hbind s₁ (.ref a)) (.cons rfl .nil) (hsp T (fun p hp => onT (List.mem_map.mpr ⟨p, hp, rfl⟩)) reads)
  have back : ∀ {H' : Hp} {z : Shared}, Un (frs []) [] T H' s₁.heap z.heap → HOk P w H' z.heap → OldK s₁.heap z.heap := fun {H' z} un ok => by
    have plain : ∀ {b : Addr} {o : Obj}, b ∉ cs.map Prod.snd → s₁.heap.get? b = some o → z.heap.get? b = some o := fun {b o} nb e => by
      cases q : T b with
      | none => exact un.keep b o e q (List.not_mem_nil) (by simp)
      | some t =>
        rcases cases_ q with ⟨m, _⟩ | ⟨rfl, _, rfl⟩
        · exact absurd m nb
        · exact (ok b _ (un.frzs b _ _ q)).1.trans (ha.symm.trans e)
    have grown : ∀ {b : Addr}, b ∈ cs.map Prod.snd → ∃ more : Array Value, z.heap.get? b = some (PySem.W.tabObj more) := fun {b} m => by
      obtain ⟨more, q⟩ := un.tbls b #[] (onT m)
      exact ⟨_, ok b _ q⟩
    refine ⟨fun b o e => ?_, fun b o e => ?_⟩
    · by_cases m : b ∈ cs.map Prod.snd
      · obtain ⟨more, q⟩ := grown m
        rw [isT m] at e
        cases e
        obtain ⟨p, hp, rfl⟩ := List.mem_map.mp m
        exact .inr (.inl ⟨((Y.code p hp).tab (Y.tab p hp)).isCodeTable, rfl, #[], more, rfl, by rw [Array.empty_append]; exact q⟩)
      · exact .inl (plain m e)
    · by_cases m : b ∈ cs.map Prod.snd
      · obtain ⟨more, q⟩ := grown m
        exact ⟨_, q⟩
      · exact ⟨o, plain m e⟩
  refine codeAny_mono run ?_
  rintro (e | _ | _ | _ | u) z h <;> try exact False.elim h
  obtain ⟨v, H', os, bare, un, ok, rv', rfl⟩ := h
  cases (show u = Value.bool true from rv')
  exact ⟨rfl, back un ok, os, bare⟩
theorem tu_of {T : List (Addr × Str)} {P : Addr} {q : Str} (h : (T.all fun p => !(p.1 == P) || p.2 == q) = true) : ∀ p ∈ T, p.1 = P → p.2 = q := by
  intro p hp e
  have := List.all_eq_true.mp h p hp
  simp only [e, beq_self_eq_true, Bool.not_true, Bool.false_or, beq_iff_eq] at this
  exact this
theorem tabs_of {T : List (Addr × Str)} {H : Hp} (h : ∀ p ∈ T, H p.1 = some (.tbl #[])) : LamX.Tabs T H := fun p hp => ⟨#[], h p hp, (by first | exact True.intro | simp [TriplesOk]), fun pos cv e => by cases e⟩
end DL
set_option Elab.async false
set_option linter.all false
set_option maxRecDepth 100000
set_option maxHeartbeats 4000000
namespace DL
open PySem PySem.Spec PyProof.Rows L2 PySem.W PySem.Calls
variable [Tb]
structure ExcInitC (P : Program) (K : PySem.W.Frag) (C fI : Addr) (ps : List Str) : Prop where
  T : OexC K C
  cd : ∃ cdD, clsIn K C = some cdD
  sub : mroIn K C (.ref C) = some true
  opq : nsIn K cStatics "thirdparty.any" = some none
  ini : ks_superIn K C C "__init__" = some (some (.builtin "ValueError.__init__"))
  ve : subIn K (.ref C) (.type "ValueError") = some true
section
variable {prog : Program} {w : World} {A : Around} {E : Value → Shared → Prop} {s : Shared} {K : PySem.W.Frag}
end
end DL
set_option Elab.async false
set_option linter.all false
set_option maxRecDepth 100000
set_option maxHeartbeats 4000000
namespace DL
open PySem PySem.Spec PyProof.Rows L2 PySem.W PySem.Calls NdefX
variable [Tb]
section
variable {P : Program} {w : World} {K : PySem.W.Frag} {mg : Str → Option Value} {base : Heap}
structure IniC (P : Program) (K : PySem.W.Frag) (mg : Str → Option Value) (C fI cda cc : Addr) (qual : Str) (params : Arguments) (scope : Scope) (N ps : List Str) (ex : Expr) (es : List Expr) (p0 p1 p2 p4 p5 : Pos) : Prop where
  T : ExcInitC P K C fI []
  hcd : codeIn K (.ref cda) qual = true
  hcode : ∃ ccl cdd cvs ccs file tf, K.lookup cda = some ⟨ccl, cdd, .fields cvs, ccs⟩ ∧ cvs[2]? = some (.str file tf) ∧ ((P.main.file : Str) == file) = true
  hcell : ∃ cl cld csl, K.lookup cc = some ⟨cl, cld, .cell (some (.ref C)), csl⟩
  hsm : mg "super" = none
  S : NScope N ps ["__class__"] scope
  hp : ∃ ar, (params.posonlyargs ++ params.args).head? = some ar ∧ ps.head? = some ar.arg
  hnd : ps.Nodup
  hks : scope.names.lookup ("super" : Str) = some .globalImplicit
  htop : (P.main.scope.names.lookup ("super" : Str)).isSome = false
  hst : ∀ L, starEach (ex :: es) (ksEnv qual scope L fI (.ref cda) cc) = (false, eval ex (ksEnv qual scope L fI (.ref cda) cc)) :: starEach es (ksEnv qual scope L fI (.ref cda) cc)
  hpl : ∀ L, (backTo p4 (starEach es (ksEnv qual scope L fI (.ref cda) cc))).any (·.1) = false
  hev : ∀ L, ∃ pl, eval (.Call (.Attribute (.Call (.Name "super" p0) [] [] p1) "__init__" p2) (ex :: es) [] p4) (ksEnv qual scope L fI (.ref cda) cc) = (do
      let ov ← attributeBase (.Call (.Name "super" p0) [] [] p1) "__init__" (ksEnv qual scope L fI (.ref cda) cc) (eval (.Call (.Name "super" p0) [] [] p1) (ksEnv qual scope L fI (.ref cda) cc))
      standAt p2.atName
      let (f, first) ← holding [ov] (getMethod ov "__init__" pl)
      callWith p4 f first (backTo p4 (starEach (ex :: es) (ksEnv qual scope L fI (.ref cda) cc))) [])
  hsw : ∀ L, swapsWith (.Call (.Attribute (.Call (.Name "super" p0) [] [] p1) "__init__" p2) (ex :: es) [] p4) none p5.line (ksEnv qual scope L fI (.ref cda) cc) = pure false
  hin : ∀ L, interactive (ksEnv qual scope L fI (.ref cda) cc) = false
end
end DL
set_option Elab.async false
set_option linter.all false
set_option maxRecDepth 100000
set_option maxHeartbeats 4000000
namespace DL
open PySem PySem.Spec PyProof.Rows L2
variable [Tb]
abbrev XNames := List (Str × Addr)
def ExcR (K : PySem.W.Frag) (TL : XNames) (G : Hp) (cls : Value) (d : Option Addr) (x : PyData) : Prop := ExcAt K G cls d x ∧ ∃ n C, (n, C) ∈ TL ∧ cls = .ref C
def wxOf (K : PySem.W.Frag) (TL : XNames) (B G : Hp) (rt : PyData → DS → Prop) : WX := fun cls d σ H => ∃ G' δ' x, rt x δ' ∧ Same G G' ∧ Rel K B G' δ' σ H ∧ ExcR K TL G' cls d x
theorem wx_mono {K : PySem.W.Frag} {TL : XNames} {B G G' : Hp} {rt : PyData → DS → Prop} (s : Same G G') : ∀ c d σ H, wxOf K TL B G' rt c d σ H → wxOf K TL B G rt c d σ H := fun c d σ H ⟨G2, δ', x, h1, h2, h3, h4⟩ => ⟨G2, δ', x, h1, s.trans h2, h3, h4⟩
structure EndsX (X : Cx) (TL : XNames) (B G : Hp) (E : DEnds) (D : Ends) : Prop extends EndsOk X.K B G E D where
  tk : L2N.Takes X (wxOf X.K TL B G E.rt)
theorem EndsX.mono {X : Cx} {TL : XNames} {B G G' : Hp} {E : DEnds} {D : Ends} (h : EndsX X TL B G E D) (s : Same G G') : EndsX X TL B G' E D := ⟨h.toEndsOk.mono s, h.tk.imp (wx_mono s)⟩
def upSX (X : Cx) (TL : XNames) (w : DTS) : TS := fun D σ H => ∃ B G δ E, Rel X.K B G δ σ H ∧ w E δ ∧ EndsX X TL B G E D
abbrev JSX (X : Cx) (TL : XNames) (st : Stmt) (w : DTS) : Prop := PS X st (upSX X TL w)
abbrev JSsX (X : Cx) (TL : XNames) (st : List Stmt) (w : DTS) : Prop := PSs X st (upSX X TL w)
abbrev DEX := DS → (Opd → DS → Prop) → (PyData → DS → Prop) → Prop
abbrev DAX := DS → (List Opd → DS → Prop) → (PyData → DS → Prop) → Prop
def upX (X : Cx) (TL : XNames) (w : DEX) : TE := fun σ H Q => ∃ B G δ R Z, Rel X.K B G δ σ H ∧ w δ R Z ∧ (∀ v H' G' o δ', R o δ' → Same G G' → Rel X.K B G' δ' σ H' → OpdOk X.K G' σ v o → Q v H') ∧ L2N.Takes X (wxOf X.K TL B G Z)
def upAX (X : Cx) (TL : XNames) (w : DAX) : TA := fun σ H Q => ∃ B G δ R Z, Rel X.K B G δ σ H ∧ w δ R Z ∧ (∀ vs H' G' os δ', R os δ' → Same G G' → Rel X.K B G' δ' σ H' → OpdsOk X.K G' σ vs os → Q vs H') ∧ L2N.Takes X (wxOf X.K TL B G Z)
abbrev JEX (X : Cx) (TL : XNames) (e : Expr) (w : DEX) : Prop := PE X e (upX X TL w)
abbrev JAX (X : Cx) (TL : XNames) (es : List Expr) (w : DAX) : Prop := PA X es (upAX X TL w)
section
variable {X : Cx} {TL : XNames} {st : Stmt} {rest es : List Stmt} {e : Expr} {pos : Pos}
theorem jsx_of {w : DTS} (h : JS X st w) : JSX X TL st w := ps_le h fun pins s σ H D I ⟨B, G, δ, E, rel, hw, k⟩ => ⟨B, G, δ, E, rel, hw, k.toEndsOk⟩
theorem jssx_of {w : DTS} (h : JSs X rest w) : JSsX X TL rest w := pss_le h fun pins s σ H D I ⟨B, G, δ, E, rel, hw, k⟩ => ⟨B, G, δ, E, rel, hw, k.toEndsOk⟩
theorem jssx_cons {t u : DTS} (h1 : JSX X TL st t) (h2 : JSsX X TL rest u) : JSsX X TL (st :: rest) (wSeq t u) := pss_le (pss_cons h1 h2) fun pins s σ H D I ⟨B, G, δ, E, rel, hw, k⟩ =>
  ⟨B, G, δ, _, rel, hw, ⟨fun σ' H' G' δ' r s1 rel1 => ⟨B, G', δ', E, rel1, r, k.mono s1⟩, k.rt, k.bk, k.ct⟩, k.tk⟩
theorem jssx_one {t : DTS} (h : JSX X TL st t) : JSsX X TL [st] t := pss_one h
theorem jsx_if {c : Expr} {p q : List Stmt} {tc : DT} {t u : DTS} (hc : JT X c tc) (hp : JSsX X TL p t) (hq : JSsX X TL q u) : JSX X TL (.If c p q pos) (wIf tc t u) := ps_le (ps_if hc hp hq) fun pins s σ H D I ⟨B, G, δ, E, rel, hw, k⟩ => ⟨B, G, δ, _, rel, hw, fun b H1 G1 δ1 r1 s1 rel1 => by
  cases b with
  | true => rw [if_pos rfl] at r1 ⊢; exact ⟨B, G1, δ1, E, rel1, r1, k.mono s1⟩
  | false => rw [if_neg Bool.false_ne_true] at r1 ⊢; exact ⟨B, G1, δ1, E, rel1, r1, k.mono s1⟩⟩
theorem jex_of {w : DE} (h : JE X e w) : JEX X TL e (fun δ R _ => w δ R) := pe_le h fun pins s σ H Q I ⟨B, G, δ, R, Z, rel, hw, k, tk⟩ => ⟨B, G, δ, R, rel, hw, k⟩
theorem takes_no : L2N.Takes X (fun _ _ _ _ => False) := fun _ _ ⟨_, _, _, _, _, _, _, _, _, _, _, _, _, _, _, _, w⟩ => w.elim
theorem je_ofX {w : DEX} (h : JEX X TL e w) : JE X e (fun δ R => w δ R fun _ _ => False) := pe_le h fun pins s σ H Q I ⟨B, G, δ, R, rel, hw, k⟩ => ⟨B, G, δ, R, _, rel, hw, k, takes_no.imp fun c d σ H ⟨_, _, _, q, _⟩ => q⟩
def axNil : DAX := fun δ R _ => R [] δ
def axCons (w : DEX) (r : DAX) : DAX := fun δ R Z => w δ (fun o δ1 => r δ1 (fun os δ2 => R (o :: os) δ2) Z) Z
def wTupX (w : DAX) : DEX := fun δ R Z => w δ (fun os δ1 => lkL os δ1 fun xs δ2 => xs.length ≤ 1000 ∧ R (.d (.tuple xs)) δ2) Z
def wLstX (w : DAX) : DEX := fun δ R Z => w δ (fun os δ1 => lkL os δ1 fun xs δ2 => xs.length ≤ 1000 ∧ R (.d (.list xs)) δ2) Z
def wRetX (w : DEX) : DTS := fun E δ => w δ (fun o δ1 => lk o δ1 fun x δ2 => E.rt x δ2) E.rt
theorem jsx_ret {w : DEX} (h : JEX X TL e w) : JSX X TL (.Return (some e) pos) (wRetX w) := ps_le (ps_ret h) fun pins s σ H D I ⟨B, G, δ, E, rel, hw, k⟩ => ⟨B, G, δ, _, E.rt, rel, hw, fun v H1 G1 o δ1 r1 s1 rel1 ok1 => by
  obtain ⟨G2, δ2, x, q, s2, rel2, dn⟩ := lk_ok rel1 ok1 r1
  exact k.rt v σ H1 G2 x δ2 q (s1.trans s2) rel2 dn, k.tk⟩
def wDropX (w : DEX) : DTS := fun E δ => w δ (fun _ δ1 => E.nx δ1) E.rt
theorem jsx_expr {w : DEX} (h : JEX X TL e w) (hs : swapsWith e none pos.line X.env = pure false := by rfl) : JSX X TL (.Expr e pos) (wDropX w) := ps_le (ps_expr h hs) fun pins s σ H D I ⟨B, G, δ, E, rel, hw, k⟩ => ⟨B, G, δ, _, E.rt, rel, hw, fun v H1 G1 o δ1 r1 s1 rel1 ok1 => k.nx σ H1 G1 δ1 r1 s1 rel1, k.tk⟩
def wSetX (i : Nat) (w : DEX) : DTS := fun E δ => w δ (fun o δ1 => lk o δ1 fun x δ2 => E.nx (δ2.set i (.d x))) E.rt
def wAsgGX (w : DEX) (g : DTG) : DTS := fun E δ => w δ (fun o δ1 => lk o δ1 fun x δ2 => g x δ2 E.nx) E.rt
def wOpX (p : P2) (wa wb : DEX) : DEX := fun δ R Z => wa δ (fun o1 δ1 => wb δ1 (fun o2 δ2 => use o1 δ2 fun x => use o2 δ2 fun y => p x y fun z => R (.d z) δ2) Z) Z
def wIfEX (t : DT) (wa wb : DEX) : DEX := fun δ R Z => t δ fun k δ1 => if k = true then wa δ1 R Z else wb δ1 R Z
abbrev DMk := DS → (PyData → DS → Prop) → Prop
def upMk (K : PySem.W.Frag) (TL : XNames) (w : DMk) : L2.St → Hp → XK → Prop := fun σ H Q => ∃ B G δ Z, Rel K B G δ σ H ∧ w δ Z ∧ ∀ cls d H' G' x δ', Z x δ' → Same G G' → Rel K B G' δ' σ H' → ExcR K TL G' cls d x → Q cls d H'
abbrev JMk (X : Cx) (TL : XNames) (e : Expr) (w : DMk) : Prop := L2N.PMk X e (upMk X.K TL w)
def wRaise (w : DMk) : DTS := fun E δ => w δ E.rt
theorem jsx_raise {w : DMk} (hc : X.calm = true) (he : JMk X TL e w) : JSX X TL (.Raise (some e) none pos) (wRaise w) := ⟨fun pins s σ H D I ⟨B, G, δ, E, rel, hw, k⟩ => (L2N.ps_raise hc k.tk he).run pins s σ H D I
  ⟨B, G, δ, E.rt, rel, hw, fun cls d H' G' x δ' z s1 rel1 ex => ⟨G', δ', x, z, s1, rel1, ex⟩⟩⟩
def wMk1 (n f : Str) (w : DA) : DMk := fun δ Z => w δ fun os δ1 => lkL os δ1 fun xs δ2 => ∃ x, xs = [x] ∧ Z (excD n [(f, x)]) δ2
def wMk2 (n f g : Str) (w : DA) : DMk := fun δ Z => w δ fun os δ1 => lkL os δ1 fun xs δ2 => ∃ x y, xs = [x, y] ∧ Z (excD n [(g, y), (f, x)]) δ2
end
end DL
set_option Elab.async false
set_option linter.all false
set_option maxRecDepth 100000
set_option maxHeartbeats 4000000
namespace DL
open PySem PySem.Spec PyProof.Rows L2
variable [Tb]
def notX (x : PyData) : Prop := ∀ n fs, x ≠ excD n fs
def onX (x : PyData) (k : PyData → Prop) (kx : Str → List (Str × PyData) → Prop) (_u : Stop (k, kx)) : Prop := (∀ n fs, x = excD n fs → kx n fs) ∧ (notX x → k x)
theorem excD_inj {n m : Str} {fs gs : List (Str × PyData)} (h : excD n fs = excD m gs) : n = m ∧ fs = gs := by
  unfold excD at h
  simp only [PyData.dict.injEq, List.cons.injEq, Prod.mk.injEq, PyData.str.injEq, and_true] at h
  obtain ⟨h1, h2⟩ := h
  refine ⟨h1, ?_⟩
  refine (List.map_inj_right ?_).mp h2
  rintro ⟨a, b⟩ ⟨c, d⟩ e
  simp only [Prod.mk.injEq, PyData.str.injEq] at e
  exact Prod.ext e.1 e.2
theorem onX_yes {n : Str} {fs : List (Str × PyData)} {k : PyData → Prop} {kx : Str → List (Str × PyData) → Prop} {u : Stop (k, kx)} (h : onX (excD n fs) k kx u) : kx n fs := h.1 n fs rfl
theorem onX_no {x : PyData} {k : PyData → Prop} {kx : Str → List (Str × PyData) → Prop} {u : Stop (k, kx)} (h : onX x k kx u) (hn : notX x) : k x := h.2 hn
omit [Tb] in
@[simp ↓] theorem onX_exc (n : Str) (fs : List (Str × PyData)) (k : PyData → Prop) (kx : Str → List (Str × PyData) → Prop) (u : Stop (k, kx)) : onX (excD n fs) k kx u = kx n fs := propext ⟨onX_yes, fun h => ⟨fun m gs e => by
  obtain ⟨rfl, rfl⟩ := excD_inj e
  exact h, fun hn => absurd rfl (hn n fs)⟩⟩
theorem onX_of {x : PyData} {k : PyData → Prop} {kx : Str → List (Str × PyData) → Prop} {u : Stop (k, kx)} (hn : notX x) : onX x k kx u = k x := propext ⟨fun h => h.2 hn, fun h => ⟨fun n fs e => absurd e (hn n fs), fun _ => h⟩⟩
theorem notX_tup (xs : List PyData) : notX (.tuple xs) := fun n fs e => by cases e
theorem notX_list (xs : List PyData) : notX (.list xs) := fun n fs e => by cases e
theorem notX_int (i : Int) : notX (.int i) := fun n fs e => by cases e
theorem notX_bool (i : Bool) : notX (.bool i) := fun n fs e => by cases e
theorem notX_str (i : Str) : notX (.str i) := fun n fs e => by cases e
theorem notX_none : notX .none := fun n fs e => by cases e
omit [Tb] in
@[simp ↓] theorem onX_tup (xs : List PyData) (k : PyData → Prop) (kx : Str → List (Str × PyData) → Prop) (u : Stop (k, kx)) : onX (.tuple xs) k kx u = k (.tuple xs) := onX_of (notX_tup xs)
omit [Tb] in
@[simp ↓] theorem onX_list (xs : List PyData) (k : PyData → Prop) (kx : Str → List (Str × PyData) → Prop) (u : Stop (k, kx)) : onX (.list xs) k kx u = k (.list xs) := onX_of (notX_list xs)
omit [Tb] in
@[simp ↓] theorem onX_int (i : Int) (k : PyData → Prop) (kx : Str → List (Str × PyData) → Prop) (u : Stop (k, kx)) : onX (.int i) k kx u = k (.int i) := onX_of (notX_int i)
omit [Tb] in
@[simp ↓] theorem onX_bool (i : Bool) (k : PyData → Prop) (kx : Str → List (Str × PyData) → Prop) (u : Stop (k, kx)) : onX (.bool i) k kx u = k (.bool i) := onX_of (notX_bool i)
omit [Tb] in
@[simp ↓] theorem onX_str (i : Str) (k : PyData → Prop) (kx : Str → List (Str × PyData) → Prop) (u : Stop (k, kx)) : onX (.str i) k kx u = k (.str i) := onX_of (notX_str i)
omit [Tb] in
@[simp ↓] theorem onX_none (k : PyData → Prop) (kx : Str → List (Str × PyData) → Prop) (u : Stop (k, kx)) : onX .none k kx u = k .none := onX_of notX_none
omit [Tb] in
@[simp] theorem notX_tup' (xs : List PyData) : notX (.tuple xs) = True := eq_true (notX_tup xs)
omit [Tb] in
@[simp] theorem notX_list' (xs : List PyData) : notX (.list xs) = True := eq_true (notX_list xs)
omit [Tb] in
@[simp] theorem notX_int' (xs : Int) : notX (.int xs) = True := eq_true (notX_int xs)
omit [Tb] in
@[simp] theorem notX_bool' (xs : Bool) : notX (.bool xs) = True := eq_true (notX_bool xs)
omit [Tb] in
@[simp] theorem notX_str' (xs : Str) : notX (.str xs) = True := eq_true (notX_str xs)
omit [Tb] in
@[simp] theorem notX_none' : notX .none = True := eq_true notX_none
def liftSpX (K : PySem.W.Frag) (TL : XNames) (sp : DSp) : Sp := fun vs H Q E => ∃ B G cs R, Rel K B G cs (vs.map some) H ∧ sp cs R ∧ (∀ v H' G' x cs', R x cs' → Same G G' → Rel K B G' cs' (vs.map some) H' → Dn K G' v x → Q v H') ∧
  ∀ cls d H' G' x cs', R x cs' → Same G G' → Rel K B G' cs' (vs.map some) H' → ExcR K TL G' cls d x → E cls d H'
section
variable {P : Program} {w : World} {K : PySem.W.Frag} {mg : Str → Option Value} {base : Heap}
theorem okX {x qual : Str} {st : Stmt} {f : Addr} {fd : FuncData} {N ps : List Str} {k : Nat} {sp : DSp} {wb : DTS} {TL : XNames} (F : Fun K x qual st f fd) (S : FnScope N ps (defScope st)) (dl : ∀ cs R, sp cs R → cs.length = ps.length)
    (body : ∀ (cdv : Value) (A : Around) (outer : List Env) (s : Shared) (H : Hp) (E : XK), RoomG k (A.deeper (envOfC qual (defScope st) s.heap.objs.size f cdv)) → JSsX (cxOf (L2N.CX P w) P w K mg base N qual (defScope st) f cdv A outer s H E) TL (defBody st) wb)
    (rd : ∀ cs R, sp cs R → wb (endsOf cs R) (start0 N.length cs)) : FnG P w K mg base (L2N.CX P w) (k + 1) f fd ps (liftSpX K TL sp) := by
  obtain ⟨oc, od, kV, doc, pm, an, cdv, ct, osl, rfl, lk, hcd⟩ := F.ex
  refine fnG_of lk hcd S (fun vs H Q E ⟨B, G, cs, R, rel, hs, _⟩ => by rw [← dl cs R hs, ← rel.len, List.length_map]) fun A outer s H vs Q E hr ⟨B, G, cs, R, rel, hs, k, kx⟩ => ?_
  refine ⟨_, body cdv A outer s H E hr, B, G, _, endsOf cs R, rel_start rel, rd cs R hs, ⟨fun σ' H' G' δ' ⟨io, r⟩ sG rel' => k _ H' G' _ _ r sG (rel_end rel rel' sG io) .non, fun v σ' H' G' x δ' ⟨io, r⟩ sG rel' dn => k v H' G' x _ r sG (rel_end rel rel' sG io) dn, fun _ _ _ _ h => h.elim, fun _ _ _ _ h => h.elim⟩, ?_⟩
  refine (L2N.takes_of (E := E) rfl rfl rfl rfl).imp fun cls d σ' H' ⟨G', δ', x, ⟨io, r⟩, sG, rel', ex⟩ => ?_
  exact kx cls d H' G' x _ r sG (rel_end rel rel' sG io) ex
end
section
variable {X : Cx} {TL : XNames} {CX : CXT} {k : Nat} {f : Addr} {fd : FuncData} {ps : List Str} {x : Str} {p pos : Pos} {e : Expr} {es : List Expr}
theorem run_fnGS {sp : Sp} {E : L2.St → XK} {pins : List (Addr × Obj)} {σ : L2.St} {H : Hp} {s : Shared} {Q : VK} {us : List Value} {vs : List V} (F : FnG X.prog X.w X.K X.mg X.base CX k f fd ps sp) (hr : RoomG k X.A) (hb : Binds X.K fd ps []) (hx : PassesAt CX X σ (E σ))
    (I : Inv X pins σ H s) (r : Vals vs us) (h : sp vs H Q (E σ)) : wpAny (model X.prog X.w) X.A (call (.ref f) us) (EP X pins σ Q) X.xe s := by
  have many : (us ++ []).length = ps.length := (List.append_nil us).symm ▸ r.length.symm.trans (F.len _ _ _ _ h)
  have bound : BindsTo s fd ⟨us, []⟩ (ps.zip us) := by have := hb s us I.kIn many; rwa [List.append_nil] at this
  refine wpAny_call (codeAny_mono (F.run X.A X.stack s H ⟨us, []⟩ us vs Q (E σ) hr I.env0 bound r h) ?_)
  rintro (err | _ | _ | _ | u) z back <;> first | exact hx pins H s err z I back | exact False.elim back | exact I.after back
theorem pe_callGS {sp : Sp} {E : L2.St → XK} {t : TA} (F : FnG X.prog X.w X.K X.mg X.base CX k f fd ps sp) (hr : RoomG k X.A) (hg : Gl X x) (hm : X.mg x = some (.ref f)) (hk : PySem.W.keepIn X.K (.ref f) = true) (hb : Binds X.K fd ps []) (hx : ∀ σ, PassesAt CX X σ (E σ))
    (ha : PA X (e :: es) t) (hdb : (x == ("__debug__" : Str)) = false := by decide) (he : starEach (e :: es) X.env = (false, eval e X.env) :: starEach es X.env := by rfl) (hpl : (backTo pos (starEach es X.env)).any (·.1) = false := by rfl) : PE X (.Call (.Name x p) (e :: es) [] pos) (tCallS sp E t) := by
  exact ⟨fun pins s σ H Q I h => wpAny_Call_Name_kw (ld_glob I hg hm (PySem.W.callWith_K (h₀ := X.base) I.ok.mod.kin hk (wpAny_mono (ha.run pos pins s σ H _ I h)
    (fun us z ⟨vs, H1, I1, r, q⟩ => ⟨I1.kIn, run_fnGS F hr hb (hx σ) I1 r q⟩) fun _ _ z => z) he hpl) hdb)⟩
def wCallX (m : List Bool) (sp : DSp) (w : DAX) : DEX := fun δ R Z => w δ (fun os δ1 => lkM m os δ1 fun os' δ2 => (slotsOf os').Nodup ∧ sp (os'.map (cellOf δ2)) fun x cs => onX x (fun x => R (.d x) (putBack os' cs δ2)) (fun n fs => Z (excD n fs) (putBack os' cs δ2)) .mk) Z
theorem dn_notX {K : PySem.W.Frag} {G : Hp} {v : V} {n : Str} {fs : List (Str × PyData)} (h : Dn K G v (excD n fs)) : False := by cases h
theorem jex_call {m : List Bool} {sp : DSp} {w : DAX} (F : FnG X.prog X.w X.K X.mg X.base (L2N.CX X.prog X.w) k f fd ps (liftSpX X.K TL sp)) (hr : RoomG k X.A) (hg : Gl X x) (hm : X.mg x = some (.ref f)) (hk : PySem.W.keepIn X.K (.ref f) = true) (hb : Binds X.K fd ps [])
    (ha : JAX X TL (e :: es) w) (hdb : (x == ("__debug__" : Str)) = false := by decide) (he : starEach (e :: es) X.env = (false, eval e X.env) :: starEach es X.env := by rfl) (hpl : (backTo pos (starEach es X.env)).any (·.1) = false := by rfl) : JEX X TL (.Call (.Name x p) (e :: es) [] pos) (wCallX m sp w) :=
  ⟨fun pins s σ H Q I ⟨B, G, δ, R, Z, rel, hw, k, tk⟩ => (pe_callGS (E := WE (wxOf X.K TL B G Z)) F hr hg hm hk hb (L2N.passAt tk) ha hdb he hpl).run pins s σ H Q I ⟨B, G, δ, _, Z, rel, hw, fun vs H1 G1 os δ1 r1 s1 rel1 ok1 => by
    obtain ⟨G2, δ2, os', ⟨nd, q⟩, s2, rel2, ok2⟩ := lkM_ok rel1 ok1 r1
    refine ⟨_, G2, _, _, call_rel rel2 ok2 nd, q, fun v H' G' z cs r s3 rel3 dn => k v H' G' _ _ (onX_no r fun n fs e => by rw [e] at dn; exact dn_notX dn) (s1.trans (s2.trans s3)) (call_back rel2 ok2 nd s3 rel3) dn, fun cls d H' G' z cs r s3 rel3 ex => ?_⟩
    obtain ⟨⟨n, C, fs, rfl, h2⟩, h3⟩ := ex
    exact ⟨G', _, _, onX_yes r, s1.trans (s2.trans s3), call_back rel2 ok2 nd s3 rel3, ⟨⟨n, C, fs, rfl, h2⟩, h3⟩⟩, tk⟩⟩
def xE (w : DE) : DEX := fun δ R _ => w δ R
def xA (w : DA) : DAX := fun δ R _ => w δ R
def nX (w : DEX) : DE := fun δ R => w δ R fun _ _ => False
theorem jxe {w : DE} (h : JE X e w) : JEX X TL e (xE w) := jex_of h
theorem jxa {es : List Expr} {w : DA} (h : JA X es w) : JAX X TL es (xA w) := pa_le h fun pins s σ H Q I ⟨B, G, δ, R, Z, rel, hw, k, tk⟩ => ⟨B, G, δ, R, rel, hw, k⟩
theorem jnx {w : DEX} (h : JEX X TL e w) : JE X e (nX w) := je_ofX h
def noXE (E : DEnds) : DEnds := { E with rt := fun x δ' => notX x ∧ E.rt x δ' }
def wNoX (w : DTS) : DTS := fun E δ => w (noXE E) δ
theorem js_noX {st : Stmt} {w : DTS} (h : JSX X TL st w) : JS X st (wNoX w) := ps_le h fun pins s σ H D I ⟨B, G, δ, E, rel, hw, k⟩ =>
  ⟨B, G, δ, _, rel, hw, ⟨k.nx, fun v σ' H' G' x δ' ⟨_, r⟩ => k.rt v σ' H' G' x δ' r, k.bk, k.ct⟩, takes_no.imp fun c d σ H ⟨_, _, x, ⟨hn, _⟩, _, _, ⟨n, C, fs, e, _⟩, _⟩ => hn n fs e⟩
end
def hndE (i : Nat) (E : DEnds) : DEnds := { nx := fun δ2 => E.nx (δ2.set i .em), rt := fun y δ2 => E.rt y (δ2.set i .em), bk := fun δ2 => E.bk (δ2.set i .em), ct := fun δ2 => E.ct (δ2.set i .em) }
def tryE (i : Nat) (cat : Str → Bool) (wh : Addr → Value → Option Addr → DTS) (E : DEnds) : DEnds := { nx := E.nx, bk := E.bk, ct := E.ct, rt := fun x δ' => onX x (fun x => E.rt x δ') (fun n fs => if cat n = true then ∀ (a : Addr) (cls : Value) (d : Option Addr), wh a cls d (hndE i E) (δ'.set i (.xc a cls d (excD n fs))) else E.rt (excD n fs) δ') .mk }
def wTry (i : Nat) (cat : Str → Bool) (wb : DTS) (wh : Addr → Value → Option Addr → DTS) : DTS := fun E δ => wb (tryE i cat wh E) δ
section
variable {X : Cx} {TL : XNames}
theorem clear_set {K : PySem.W.Frag} {B G H : Hp} {δ : DS} {σ : L2.St} (i : Nat) (R : Rel K B G δ σ H) : Rel K B G (δ.set i .em) (σ.set i none) H := R.clear none
theorem jsx_try {x n : Str} {c : Value} {i : Nat} {body suite : List Stmt} {b₀ : Stmt} {np pos pos' : Pos} {cat : Str → Bool} {wb : DTS} {wh : Addr → Value → Option Addr → DTS}
    (hs : X.stack = X.env :: X.outer) (hf : X.env.frame = some X.env.locals) (hN : X.N.Nodup) (hi : X.N[i]? = some n) (hln : X.env.kindOf n = some .local) (hc : Names X x c)
    (hnm : ∀ n C, (n, C) ∈ TL → (PySem.W.clsIn X.K C).map (·.name) = some n) (hcat : ∀ n C, (n, C) ∈ TL → PySem.W.exmOne X.K (.ref C) c = some (cat n))
    (hb : ∀ (pn : List (Addr × Obj)) (xe : Value → Shared → Prop), PassesOwn (model X.prog X.w) X.A X.env xe → JSsX (X.tr pn xe) TL body wb)
    (hsu : ∀ (a : Addr) (oe : Obj) (cls : Value) (d : Option Addr) (pn : List (Addr × Obj)), Zc cls d oe → (∃ vs, oe.data = .fields vs) → (∃ n C, (n, C) ∈ TL ∧ cls = .ref C) → JSs (X.suite a ((a, oe) :: pn)) (b₀ :: suite) (wh a cls d)) :
    JSX X TL (.Try body [.ExceptHandler (some (.Name x np)) (some n) (b₀ :: suite) pos'] [] [] pos) (wTry i cat wb wh) := ⟨fun pins s σ H D I ⟨B, G, δ, E, rel, hw, k⟩ => by
  refine (L2N.ps_try_as (i := i) (Wout := wxOf X.K TL B G E.rt) (tb := fun W D σ H => ∃ B G δ E, Rel X.K B G δ σ H ∧ wb E δ ∧ EndsOk X.K B G E D ∧ ∀ cls d σ' H', wxOf X.K TL B G E.rt cls d σ' H' → W cls d σ' H')
    (ts := fun a cls d D σ H => (∃ n C, (n, C) ∈ TL ∧ cls = .ref C) ∧ upS X.K (wh a cls d) D σ H) hs hf hN hi hln hc k.tk (fun W pn xe tk po => ?_) (fun a oe cls d pn hz hv => ?_)).run pins s σ H D I ?_
  · exact pss_le (hb pn xe po) fun pins s σ H D I ⟨B, G, δ, E, rel, hw, k, wx⟩ => ⟨B, G, δ, E, rel, hw, k, tk.imp wx⟩
  · exact ⟨fun pins s σ H D I ⟨hC, q⟩ => (hsu a oe cls d pn hz.zc hv hC).run pins s σ H D I q⟩
  · refine ⟨B, G, δ, _, rel, hw, ⟨k.nx, fun v σ' H' G' x δ' q sG rel' dn => by
      have hn : notX x := fun n fs e => by
        rw [e] at dn
        exact dn_notX dn
      have q2 : E.rt x δ' := And.right q hn
      exact k.rt v σ' H' G' x δ' q2 sG rel' dn, k.bk, k.ct⟩, ?_⟩
    rintro cls d σ' H' ⟨G', δ', x, q, sG, rel', hx⟩
    obtain ⟨⟨n0, C, fs, rfl, hcl, hn0, hd⟩, n1, C1, hT, hcl1⟩ := id hx
    rw [hcl] at hcl1
    have : C = C1 := Value.ref.inj hcl1
    subst this
    have : n0 = n1 := by
      have := hnm n1 C hT
      rw [hn0] at this
      exact Option.some.inj this
    subst this
    have q := And.left q n0 fs rfl
    simp only [] at q
    refine ⟨cat n0, by rw [hcl]; exact hcat n0 C hT, fun e a na => ⟨⟨n0, C, hT, hcl⟩, ?_⟩, fun e => ?_⟩
    · rw [if_pos e] at q
      refine ⟨B, G', _, _, rel'.set (i := i) (c := .xc a cls d (excD n0 fs)) ⟨rfl, hx.1⟩ (fun _ m => nomatch m), q a cls d, ?_⟩
      exact ⟨fun σ2 H2 G2 δ2 r s2 rel2 => k.nx _ H2 G2 _ r (sG.trans s2) (clear_set i rel2), fun v σ2 H2 G2 y δ2 r s2 rel2 dn => k.rt v _ H2 G2 y _ r (sG.trans s2) (clear_set i rel2) dn,
        fun σ2 H2 G2 δ2 r s2 rel2 => k.bk _ H2 G2 _ r (sG.trans s2) (clear_set i rel2), fun σ2 H2 G2 δ2 r s2 rel2 => k.ct _ H2 G2 _ r (sG.trans s2) (clear_set i rel2)⟩
    · rw [e, if_neg Bool.false_ne_true] at q
      exact ⟨G', δ', _, q, sG, rel', hx⟩⟩
end
end DL
set_option Elab.async false
set_option linter.all false
set_option maxRecDepth 100000
set_option maxHeartbeats 4000000
namespace DL
open PySem PySem.Spec PyProof.Rows L2
variable [Tb]
section
open PySem.W PySem.Calls
variable {prog : Program} {w : World} {A : Around} {E : Value → Shared → Prop} {s : Shared} {K : Frag} {x D : Addr} {ox : Obj}
structure ClsBy (K : Frag) (D : Addr) : Prop where
  get : findIn K (.ref D) "__getattribute__" = some (some (.builtin "BaseException.__getattribute__"))
  no : findIn K (.ref D) "__getattr__" = some none
  exc : subIn K (.ref D) (.type "BaseException") = some true
  dict : hasDictIn K D = true
  attr : findIn K (.ref D) "__class__" = some (some (.builtin "object.__class__"))
  desc : specialIn K (.builtin "object.__class__") "__get__" = some (some (.builtin "getset_descriptor.__get__"))
  takes : takesIn K (.builtin "object.__class__") = some true
  root : mroIn K D (.type "object") = some true
variable {od : Option Obj}
theorem ClsBy.cls (c : ClsBy K D) : ∃ cd, clsIn K D = some cd := (any_some c.dict).imp fun _ z => z.1
theorem ClsBy.found (c : ClsBy K D) : findObj K D od "__class__" = some (.bind (.builtin "getset_descriptor.__get__") (.builtin "object.__class__")) := by
  obtain ⟨cd, e⟩ := c.cls
  simp [findObj, e, c.attr, c.desc, c.takes]
theorem ClsBy.obj (c : ClsBy K D) : ∃ o cd, K.lookup D = some o ∧ o.data = .cls cd := by
  obtain ⟨cd, e⟩ := c.cls
  rw [clsIn] at e
  split at e
  next _ _ cd' _ at_D => exact ⟨_, cd', at_D, rfl⟩
  next => exact nomatch e
section
variable {t : Nat} {Q : Fin → Shared → Prop}
theorem ClsBy.root_get (c : ClsBy K D) {tk : Tok} {s : Shared} (X : K.In s.heap) (I : InstAt s.heap x ox D od) (h : Q (.done (.ret (.ref D))) s) : wpAny (model prog w) A (Builtin.«object.__getattribute__» ⟨[.ref x, .str "__class__" tk], []⟩) Q E s := by
  obtain ⟨hp, gs, dr, tk0, os⟩ := s
  have type := I.type (M := model prog w)
  have find := looks_find (M := model prog w) X I c.found
  have desc : wpAny (model prog w) A (holding [Value.builtin "object.__class__"] (call (.builtin "getset_descriptor.__get__") [.builtin "object.__class__", .ref x, .ref D]) >>= ret) Q E ⟨hp, gs, dr, tk0, os⟩ := by
    refine wpAny_bind (wpAny_holding (wpAny_call (class_get (s := ⟨hp, gs, dr, tk0, os⟩) (ox := ox) (od := od) X I c.root ?_)))
    exact wpAny_pure h
  delta Builtin.«object.__getattribute__»
  exact wpAny_bind (wpAny_of_eq (a := ((Value.ref x : Value), [Value.str "__class__" tk])) (by simp only [slotArgs]; rfl) (wpAny_bind (wpAny_pure (wpAny_bind (type.at (wpAny_bind (find.at desc)))))))
end
section
variable {Q : Option Value → Shared → Prop}
theorem ClsBy.tells (c : ClsBy K D) (X : K.In s.heap) (I : InstAt s.heap x ox D od) (h : Q (some (.ref D)) { s with toks := s.toks + 1 }) : wpAny (model prog w) A (getAttr? (.ref x) "__class__") Q E s := by
  obtain ⟨hp, gs, dr, tk, os⟩ := s
  have type := I.type (M := model prog w)
  have isExc : Looks (model prog w) hp (isInstance (.ref x) (.type "BaseException")) true := type.andThen (looks_subIn X c.exc)
  have other : (Value.builtin "BaseException.__getattribute__" == Value.builtin "object.__getattribute__") = false := by decide +kernel
  have by_base {G E' : Value → Shared → Prop} {A' : Around} (g : G (.ref D) ⟨hp, gs, dr, tk + 1, os⟩) : wpAny (model prog w) A' (call (.builtin "BaseException.__getattribute__") [.ref x, .str "__class__" tk]) G E' ⟨hp, gs, dr, tk + 1, os⟩ :=
    wpAny_call (codeAny_call_builtin PySem.F.excAttr_ValueError.ga.plain PySem.F.entry_bexc_ga (@check_slot (model prog w) _ _ ⟨hp, gs, dr, tk + 1, os⟩ "BaseException.__getattribute__" "BaseException" "__getattribute__" (.ref x) [.str "__class__" tk] [] _ (by decide +kernel) (by decide +kernel) isExc
      (PySem.F.args_bexc_ga (.ref x) (.str "__class__" tk)) (c.root_get X I g)))
  have look1 := looks_findIn (M := model prog w) X c.get
  have look2 := looks_findIn (M := model prog w) X c.no
  delta getAttr? getAttrBy? getAttrBy
  refine wpAny_bind (wpAny_mkText (wpAny_bind (wpAny_attempt (wpAny_holding (wpAny_bind (type.at (wpAny_bind (look1.at (wpAny_ite_false (by rw [other, Bool.and_false]; rfl) ?_)))))))))
  delta getAttrByItsOwn hookBefore
  refine wpAny_bind (wpAny_ite_true (by rfl) (look2.at (wpAny_bind (wpAny_attempt (wpAny_holding ?_)))))
  delta callGetattribute
  refine wpAny_ite_false (by rfl) ?_
  delta boundAndCalled
  rw [PySem.F.excAttr_ValueError.ga.bind (.ref x)]
  refine wpAny_bind (wpAny_pure (show wpAny _ _ (call (.builtin "BaseException.__getattribute__") [.ref x, .str "__class__" tk]) _ _ _ from by_base ?_))
  show wpAny _ _ (handedOut (.ref D)) _ _ _
  rw [handedOut_of (v := .ref D) rfl]
  exact wpAny_pure (wpAny_pure h)
end
theorem ClsBy.kit (c : ClsBy K D) : KitX K (.ref x) (.ref D) (fun h => InstAt h x ox D od) where
  ty := fun _ _ _ I => I.type
  it := fun _ _ X _ => by
    obtain ⟨o, cd, at_D, dt⟩ := c.obj
    intro A' Q' E' s' k q
    delta isType loadHead
    exact wpAny_bind (wpAny_loadPart (k _ _ (X _ _ at_D)) (by rw [dt]; exact wpAny_pure q))
  ne := fun h tp dd its n sl X htp => by
    obtain ⟨o, cd, at_D, dt⟩ := c.obj
    refine beq_false_of_ne fun e => ?_
    cases e
    cases (X _ _ at_D).symm.trans htp
    cases dt
  ca := fun X I k => c.tells X I k
end
def xfC (c : Option Cell) (a : Addr) (cls : Value) (d : Option Addr) (f : Str) (k : PyData → Prop) (_u : Stop k) : Prop := ∃ n fs y, c = some (.xc a cls d (excD n fs)) ∧ fs.lookup f = some y ∧ k y
def wXf (a : Addr) (cls : Value) (d : Option Addr) (i : Nat) (f : Str) : DE := fun δ R => xfC δ[i]? a cls d f (fun y => R (.d y) δ) .mk
def isxC (c : Option Cell) (a : Addr) (cls : Value) (d : Option Addr) (k : Str → Prop) (_u : Stop k) : Prop := ∃ n fs, c = some (.xc a cls d (excD n fs)) ∧ k n
def wIsx (a : Addr) (cls : Value) (d : Option Addr) (i : Nat) (isin : Str → Bool) : DE := fun δ R => isxC δ[i]? a cls d (fun n => R (.d (.bool (isin n))) δ) .mk
omit [Tb] in
@[simp ↓] theorem wXf_ap (a : Addr) (cls : Value) (d : Option Addr) (i : Nat) (f : Str) (δ : DS) (R : Opd → DS → Prop) : wXf a cls d i f δ R = xfC δ[i]? a cls d f (fun y => R (.d y) δ) .mk := rfl
omit [Tb] in
@[simp ↓] theorem wIsx_ap (a : Addr) (cls : Value) (d : Option Addr) (i : Nat) (isin : Str → Bool) (δ : DS) (R : Opd → DS → Prop) : wIsx a cls d i isin δ R = isxC δ[i]? a cls d (fun n => R (.d (.bool (isin n))) δ) .mk := rfl
omit [Tb] in
@[simp ↓] theorem isxC_x (a : Addr) (cls : Value) (d : Option Addr) (n : Str) (fs : List (Str × PyData)) (k : Str → Prop) (u : Stop k) : isxC (some (.xc a cls d (excD n fs))) a cls d k u = k n := propext ⟨fun ⟨m, gs, e, h⟩ => by
  simp only [Option.some.injEq, Cell.xc.injEq, true_and] at e
  obtain ⟨rfl, _⟩ := excD_inj e
  exact h, fun h => ⟨n, fs, rfl, h⟩⟩
theorem xfC_of {a : Addr} {cls : Value} {d : Option Addr} {n f : Str} {fs : List (Str × PyData)} {y : PyData} {k : PyData → Prop} {u : Stop k} (hl : fs.lookup f = some y) : xfC (some (.xc a cls d (excD n fs))) a cls d f k u = k y := propext ⟨fun ⟨m, gs, z, e, l, h⟩ => by
  simp only [Option.some.injEq, Cell.xc.injEq, true_and] at e
  obtain ⟨_, rfl⟩ := excD_inj e
  rw [hl] at l
  cases l
  exact h, fun h => ⟨n, fs, y, rfl, hl, h⟩⟩
omit [Tb] in
@[simp ↓] theorem xfC_1 (a : Addr) (cls : Value) (d : Option Addr) (n f : Str) (y : PyData) (k : PyData → Prop) (u : Stop k) : xfC (some (.xc a cls d (excD n [(f, y)]))) a cls d f k u = k y := xfC_of (by simp)
section
variable {X : Cx} {TL : XNames} {a : Addr} {oe : Obj} {cls : Value} {d : Option Addr} {pn : List (Addr × Obj)} {pos p : Pos}
theorem call_isX {D : Addr} (C : ExcC X.K D) (hz : Zc (.ref D) d oe) (hv : ∃ vs, oe.data = .fields vs) : CallR (X.suite a ((a, oe) :: pn)) (.builtin "isinstance") (fun xs H Q => (d = none ∨ ∃ dd fs, d = some dd ∧ H dd = some (.xd fs)) ∧ rIsE X.K D a xs H Q) := by
  intro pins s σ H xs us Q I r ⟨hdd, h⟩
  obtain ⟨c, cv, b, rfl, hcv, e, q⟩ := h
  cases r with
  | cons rx rr =>
    cases rr with
    | cons rt rr =>
      cases rr
      cases rx
      have ec := hcv _ rt
      subst ec
      obtain ⟨hget, _⟩ := I.pin (a, oe) (List.mem_append.mpr (.inl List.mem_cons_self))
      obtain ⟨vs, hv⟩ := hv
      obtain ⟨od, J⟩ : ∃ od, PySem.W.InstAt s.heap a oe D od := by
        rcases hdd with rfl | ⟨dd, fs, rfl, hx⟩
        · refine ⟨none, hget, hz.1, by unfold PySem.W.notCls; rw [hv] <;> rfl, ?_⟩
          rw [hz.2]
          trivial
        · have hx : ObjOk X.prog X.w H s.heap dd (.xd fs) := I.hok dd _ hx
          obtain ⟨mA, hns, hr⟩ := hx
          obtain ⟨od, ho, hl⟩ := lookIn_ns hns
          exact ⟨some od, hget, hz.1, by unfold PySem.W.notCls; rw [hv] <;> rfl, by rw [hz.2]; exact ho⟩
      exact PySem.W.kia_one (ClsBy.kit ⟨C.hg, C.hk, C.hs, C.hd, C.ha, C.hn, C.ht, C.hm⟩) I.kIn J e (fun z => nomatch z) fun tk => ⟨.bl b, H, I.kept (t' := tk) fun _ _ z => z, rfl, q⟩
theorem je_isx {i : Nat} {y c : Str} {v : V} {cv : Value} {isin : Str → Bool} {px py pc : Pos} (hN : X.N[i]? = some y) (hvis : Vis X.env.scope y) (hz : Zc cls d oe) (hv : ∃ vs, oe.data = .fields vs) (hC : ∃ n C, (n, C) ∈ TL ∧ cls = .ref C)
    (hnm : ∀ n C, (n, C) ∈ TL → (PySem.W.clsIn X.K C).map (·.name) = some n) (hX : ∀ n C, (n, C) ∈ TL → ExcC X.K C ∧ PySem.W.kitOne X.K (.ref C) cv = some (isin n)) (hc : PE (X.suite a ((a, oe) :: pn)) (.Name c pc) (tC v)) (hcv : ∀ u, RelV v u → u = cv)
    (hg : Gl X "isinstance") (hm : X.mg "isinstance" = none) (hd : (y == ("__debug__" : Str)) = false := by decide) (hcd : (y == ("__classdict__" : Str)) = false := by decide)
    (hs1 : starEach [.Name y py, .Name c pc] X.env = (false, eval (.Name y py) X.env) :: starEach [.Name c pc] X.env := by rfl) (hs2 : starEach [.Name c pc] X.env = (false, eval (.Name c pc) X.env) :: starEach [] X.env := by rfl) (hpl : (backTo pos (starEach [.Name c pc] X.env)).any (·.1) = false := by rfl) :
    JE (X.suite a ((a, oe) :: pn)) (.Call (.Name "isinstance" px) [.Name y py, .Name c pc] [] pos) (wIsx a cls d i isin) := by
  obtain ⟨n0, C, hT, hcl⟩ := hC
  obtain ⟨q1, q2⟩ := hX n0 C hT
  subst hcl
  refine pe_le (pe_callB (call_isX q1 hz hv) hg hm (by rfl) (pa_cons (pe_var (X := X.suite a ((a, oe) :: pn)) hN hvis hd hcd) (pa_cons hc pa_nil hs2) hs1) (by decide) (by decide) hs1 hpl) fun pins s σ H Q I ⟨B, G, δ, R, rel, ⟨n, fs, e, hR⟩, k⟩ => ?_
  obtain ⟨o, hσ, ho, n1, C1, gs, e1, e2, e3, e4⟩ := rel.at e
  obtain ⟨rfl, rfl⟩ := excD_inj e1
  obtain rfl : C = C1 := Value.ref.inj e2
  have hn : n0 = n := by
    have := hnm n0 C hT
    rw [e3] at this
    exact (Option.some.inj this).symm
  subst hn
  refine ⟨.ref a, by rw [hσ, ho], ?_, v, cv, isin n0, rfl, hcv, q2, k _ H G _ _ hR (Same.refl _) rel (Dn.bl _)⟩
  rcases e4 with ⟨dd, ws, q3, q4, _⟩ | ⟨_, q3⟩
  · exact .inr ⟨dd, ws, q3, rel.sg _ _ q4⟩
  · exact .inl q3
def wMk0 (n : Str) : DMk := fun δ Z => Z (excD n []) δ
theorem jmk0 {x n : Str} {C : Addr} {bmB : List Value} {B newId initId : String} (hT : (n, C) ∈ TL) (hn : (PySem.W.clsIn X.K C).map (·.name) = some n) (F : ExcBaseFacts B newId initId bmB) (q : PySem.W.excIn X.K C bmB newId = true) (gC : X.mg x = some (.ref C)) (kC : PySem.W.keepIn X.K (.ref C) = true) (r : Raises X (.ref C)) (hg : Gl X x)
    (hdb : (x == ("__debug__" : Str)) = false := by decide) : JMk X TL (.Call (.Name x p) [] [] pos) (wMk0 n) := by
  intro pins s σ H Q I ⟨B, G, δ, Z, rel, hw, k⟩
  refine wpAny_Call_Name_kw (ld_glob I hg gC ?_ hdb)
  refine PySem.W.callWith_K0 I.kIn kC ?_
  show wpAny _ _ (call (.ref C) []) _ _ _
  obtain ⟨hp, g, dr, tk, os⟩ := s
  obtain ⟨bm, N, nm, qn, bs, hdct, sn, sub, ab, col, dd, k0, k1, k2, k3, k5, mN, hC, hN, hni, T⟩ := exc_obj I.kIn q
  refine wpAny_call_exc_subT F T hC hN hni (fun h' e hm => ?_) (by show 0 ≤ sizeLine; exact Nat.zero_le _)
  exact L2N.mk_of I hm r (k _ _ _ _ _ _ hw (Same.refl _) rel ⟨⟨n, C, [], rfl, rfl, hn, .inr ⟨rfl, rfl⟩⟩, n, C, hT, rfl⟩) (I.hok.gone hm.new)
end
end DL
set_option Elab.async false
set_option linter.all false
set_option maxRecDepth 100000
set_option maxHeartbeats 4000000
namespace DL
open PySem PySem.Spec PyProof.Rows L2
variable [Tb]
omit [Tb] in
@[simp ↓] theorem tryE_nx (i : Nat) (cat : Str → Bool) (wh : Addr → Value → Option Addr → DTS) (E : DEnds) : (tryE i cat wh E).nx = E.nx := rfl
omit [Tb] in
@[simp ↓] theorem tryE_bk (i : Nat) (cat : Str → Bool) (wh : Addr → Value → Option Addr → DTS) (E : DEnds) : (tryE i cat wh E).bk = E.bk := rfl
omit [Tb] in
@[simp ↓] theorem tryE_ct (i : Nat) (cat : Str → Bool) (wh : Addr → Value → Option Addr → DTS) (E : DEnds) : (tryE i cat wh E).ct = E.ct := rfl
theorem tryE_rt (i : Nat) (cat : Str → Bool) (wh : Addr → Value → Option Addr → DTS) (E : DEnds) (x : PyData) (δ' : DS) : (tryE i cat wh E).rt x δ' = onX x (fun x => E.rt x δ') (fun n fs => if cat n = true then ∀ (a : Addr) (cls : Value) (d : Option Addr), wh a cls d (hndE i E) (δ'.set i (.xc a cls d (excD n fs))) else E.rt (excD n fs) δ') .mk := rfl
omit [Tb] in
@[simp ↓] theorem tryE_rtX (i : Nat) (cat : Str → Bool) (wh : Addr → Value → Option Addr → DTS) (E : DEnds) (n : Str) (fs : List (Str × PyData)) (δ' : DS) : (tryE i cat wh E).rt (excD n fs) δ' = if cat n = true then ∀ (a : Addr) (cls : Value) (d : Option Addr), wh a cls d (hndE i E) (δ'.set i (.xc a cls d (excD n fs))) else E.rt (excD n fs) δ' := by rw [tryE_rt, onX_exc]
theorem tryE_rtN {i : Nat} {cat : Str → Bool} {wh : Addr → Value → Option Addr → DTS} {E : DEnds} {x : PyData} {δ' : DS} (h : notX x) : (tryE i cat wh E).rt x δ' = E.rt x δ' := by rw [tryE_rt, onX_of h]
omit [Tb] in
@[simp ↓] theorem tryE_rt_tup (i : Nat) (cat : Str → Bool) (wh : Addr → Value → Option Addr → DTS) (E : DEnds) (xs : List PyData) (δ' : DS) : (tryE i cat wh E).rt (.tuple xs) δ' = E.rt (.tuple xs) δ' := tryE_rtN (notX_tup xs)
omit [Tb] in
@[simp ↓] theorem tryE_rt_list (i : Nat) (cat : Str → Bool) (wh : Addr → Value → Option Addr → DTS) (E : DEnds) (xs : List PyData) (δ' : DS) : (tryE i cat wh E).rt (.list xs) δ' = E.rt (.list xs) δ' := tryE_rtN (notX_list xs)
omit [Tb] in
@[simp ↓] theorem tryE_rt_bool (i : Nat) (cat : Str → Bool) (wh : Addr → Value → Option Addr → DTS) (E : DEnds) (b : Bool) (δ' : DS) : (tryE i cat wh E).rt (.bool b) δ' = E.rt (.bool b) δ' := tryE_rtN (notX_bool b)
omit [Tb] in
@[simp ↓] theorem hndE_nx (i : Nat) (E : DEnds) (δ : DS) : (hndE i E).nx δ = E.nx (δ.set i .em) := rfl
omit [Tb] in
@[simp ↓] theorem hndE_rt (i : Nat) (E : DEnds) (x : PyData) (δ : DS) : (hndE i E).rt x δ = E.rt x (δ.set i .em) := rfl
omit [Tb] in
@[simp ↓] theorem noXE_nx (E : DEnds) : (noXE E).nx = E.nx := rfl
omit [Tb] in
@[simp ↓] theorem noXE_bk (E : DEnds) : (noXE E).bk = E.bk := rfl
omit [Tb] in
@[simp ↓] theorem noXE_ct (E : DEnds) : (noXE E).ct = E.ct := rfl
omit [Tb] in
@[simp ↓] theorem noXE_rt (E : DEnds) (x : PyData) (δ : DS) : (noXE E).rt x δ = (notX x ∧ E.rt x δ) := rfl
omit [Tb] in
@[simp ↓] theorem wTry_ap (i : Nat) (cat : Str → Bool) (wb : DTS) (wh : Addr → Value → Option Addr → DTS) (E : DEnds) (δ : DS) : wTry i cat wb wh E δ = wb (tryE i cat wh E) δ := rfl
omit [Tb] in
@[simp ↓] theorem wNoX_ap (w : DTS) (E : DEnds) (δ : DS) : wNoX w E δ = w (noXE E) δ := rfl
omit [Tb] in
@[simp ↓] theorem wRetX_ap (w : DEX) (E : DEnds) (δ : DS) : wRetX w E δ = w δ (fun o δ1 => lk o δ1 fun x δ2 => E.rt x δ2) E.rt := rfl
omit [Tb] in
@[simp ↓] theorem wDropX_ap (w : DEX) (E : DEnds) (δ : DS) : wDropX w E δ = w δ (fun _ δ1 => E.nx δ1) E.rt := rfl
omit [Tb] in
@[simp ↓] theorem wSetX_ap (i : Nat) (w : DEX) (E : DEnds) (δ : DS) : wSetX i w E δ = w δ (fun o δ1 => lk o δ1 fun x δ2 => E.nx (δ2.set i (.d x))) E.rt := rfl
omit [Tb] in
@[simp ↓] theorem wAsgGX_ap (w : DEX) (g : DTG) (E : DEnds) (δ : DS) : wAsgGX w g E δ = w δ (fun o δ1 => lk o δ1 fun x δ2 => g x δ2 E.nx) E.rt := rfl
omit [Tb] in
@[simp ↓] theorem wRaise_ap (w : DMk) (E : DEnds) (δ : DS) : wRaise w E δ = w δ E.rt := rfl
omit [Tb] in
@[simp ↓] theorem wMk0_ap (n : Str) (δ : DS) (Z : PyData → DS → Prop) : wMk0 n δ Z = Z (excD n []) δ := rfl
omit [Tb] in
@[simp ↓] theorem wMk1_ap (n f : Str) (w : DA) (δ : DS) (Z : PyData → DS → Prop) : wMk1 n f w δ Z = w δ fun os δ1 => lkL os δ1 fun xs δ2 => match xs with
  | [x] => Z (excD n [(f, x)]) δ2
  | _ => False := by
  unfold wMk1
  congr 1; funext os δ1; congr 1; funext xs δ2
  match xs with
  | [] => simp
  | [x] => simp
  | x :: y :: l => simp
omit [Tb] in
@[simp ↓] theorem wMk2_ap (n f g : Str) (w : DA) (δ : DS) (Z : PyData → DS → Prop) : wMk2 n f g w δ Z = w δ fun os δ1 => lkL os δ1 fun xs δ2 => match xs with
  | [x, y] => Z (excD n [(g, y), (f, x)]) δ2
  | _ => False := by
  unfold wMk2
  congr 1; funext os δ1; congr 1; funext xs δ2
  match xs with
  | [] => simp
  | [x] => simp
  | [x, y] => exact propext ⟨fun ⟨a, b, e, h⟩ => by cases e; exact h, fun h => ⟨x, y, rfl, h⟩⟩
  | x :: y :: z :: l => simp
omit [Tb] in
@[simp ↓] theorem axNil_ap (δ : DS) (R : List Opd → DS → Prop) (Z : PyData → DS → Prop) : axNil δ R Z = R [] δ := rfl
omit [Tb] in
@[simp ↓] theorem axCons_ap (w : DEX) (r : DAX) (δ : DS) (R : List Opd → DS → Prop) (Z : PyData → DS → Prop) : axCons w r δ R Z = w δ (fun o δ1 => r δ1 (fun os δ2 => R (o :: os) δ2) Z) Z := rfl
omit [Tb] in
@[simp ↓] theorem xE_ap (w : DE) (δ : DS) (R : Opd → DS → Prop) (Z : PyData → DS → Prop) : xE w δ R Z = w δ R := rfl
omit [Tb] in
@[simp ↓] theorem xA_ap (w : DA) (δ : DS) (R : List Opd → DS → Prop) (Z : PyData → DS → Prop) : xA w δ R Z = w δ R := rfl
def noZ : PyData → DS → Prop := fun _ _ => False
omit [Tb] in
@[simp ↓] theorem nX_ap (w : DEX) (δ : DS) (R : Opd → DS → Prop) : nX w δ R = w δ R noZ := rfl
omit [Tb] in
@[simp ↓] theorem noZ_ap (x : PyData) (δ : DS) : noZ x δ = False := rfl
omit [Tb] in
@[simp ↓] theorem wTupX_ap (w : DAX) (δ : DS) (R : Opd → DS → Prop) (Z : PyData → DS → Prop) : wTupX w δ R Z = w δ (fun os δ1 => lkL os δ1 fun xs δ2 => xs.length ≤ 1000 ∧ R (.d (.tuple xs)) δ2) Z := rfl
omit [Tb] in
@[simp ↓] theorem wLstX_ap (w : DAX) (δ : DS) (R : Opd → DS → Prop) (Z : PyData → DS → Prop) : wLstX w δ R Z = w δ (fun os δ1 => lkL os δ1 fun xs δ2 => xs.length ≤ 1000 ∧ R (.d (.list xs)) δ2) Z := rfl
omit [Tb] in
@[simp ↓] theorem wIfEX_ap (t : DT) (wa wb : DEX) (δ : DS) (R : Opd → DS → Prop) (Z : PyData → DS → Prop) : wIfEX t wa wb δ R Z = t δ fun k δ1 => if k = true then wa δ1 R Z else wb δ1 R Z := rfl
omit [Tb] in
@[simp ↓] theorem wCallX_ap (m : List Bool) (sp : DSp) (w : DAX) (δ : DS) (R : Opd → DS → Prop) (Z : PyData → DS → Prop) : wCallX m sp w δ R Z = w δ (fun os δ1 => lkM m os δ1 fun os' δ2 => (slotsOf os').Nodup ∧ ask sp (os'.map (cellOf δ2)) (fun x cs => onX x (fun x => R (.d x) (putBack os' cs δ2)) (fun n fs => Z (excD n fs) (putBack os' cs δ2)) .mk) .mk) Z := rfl
theorem onX_is {x : PyData} {k : PyData → Prop} {kx : Str → List (Str × PyData) → Prop} {u : Stop (k, kx)} (hn : notX x) (h : k x) : onX x k kx u := by rw [onX_of hn]; exact h
end DL
set_option Elab.async false
set_option linter.all false
set_option maxRecDepth 100000
set_option maxHeartbeats 4000000
namespace DL
open PySem PySem.Spec PyProof.Rows L2 NdefX
variable [Tb]
structure CF (K : PySem.W.Frag) (n : Str) (C : Addr) : Prop where
  T : OexC K C
  nm : (PySem.W.clsIn K C).map (·.name) = some n
  xf : XfC K C
  ec : ExcC K C
def XC0 (K : PySem.W.Frag) (mg : Str → Option Value) (TL : XNames) (n : Str) : Prop :=
  ∃ (C : Addr) (bmB : List Value), (n, C) ∈ TL ∧ CF K n C ∧ ExcBaseFacts "ValueError" "ValueError.__new__" "ValueError.__init__" bmB ∧ PySem.W.excIn K C bmB "ValueError.__new__" = true ∧ mg n = some (.ref C)
section
variable {X : Cx} {TL : XNames} {p pos : Pos} {e : Expr} {es : List Expr} {n f g : Str} {wa : DA}
theorem jmk0x (h : XC0 X.K X.mg TL n) (hg : Gl X n) (hdb : (n == ("__debug__" : Str)) = false := by decide) : JMk X TL (.Call (.Name n p) [] [] pos) (wMk0 n) := by
  obtain ⟨C, bmB, h1, h2, h3, h4, h5⟩ := h
  exact jmk0 h1 h2.nm h3 h4 h5 h2.T.kC (raises_own h2.T.exC h2.T.tyC) hg hdb
end
def YC (K : PySem.W.Frag) (mg : Str → Option Value) (TL : XNames) (x : Str) (cat : Str → Bool) : Prop := ∃ c, mg x = some c ∧ ∀ n C, (n, C) ∈ TL → PySem.W.exmOne K (.ref C) c = some (cat n)
def IC (K : PySem.W.Frag) (mg : Str → Option Value) (TL : XNames) (x : Str) (isin : Str → Bool) : Prop := ∃ c, mg x = some (.ref c) ∧ ∀ n C, (n, C) ∈ TL → PySem.W.kitOne K (.ref C) (.ref c) = some (isin n)
def TLok (K : PySem.W.Frag) (TL : XNames) : Prop := ∀ n C, (n, C) ∈ TL → CF K n C
section
variable {X : Cx} {TL : XNames}
theorem jsx_tryx {x n : Str} {i : Nat} {body suite : List Stmt} {b₀ : Stmt} {np pos pos' : Pos} {cat : Str → Bool} {wb : DTS} {wh : Addr → Value → Option Addr → DTS} (tl : TLok X.K TL) (y : YC X.K X.mg TL x cat)
    (hs : X.stack = X.env :: X.outer) (hf : X.env.frame = some X.env.locals) (hN : X.N.Nodup) (hi : X.N[i]? = some n) (hln : X.env.kindOf n = some .local) (hg : Gl X x)
    (hb : ∀ (pn : List (Addr × Obj)) (xe : Value → Shared → Prop), PassesOwn (model X.prog X.w) X.A X.env xe → JSsX (X.tr pn xe) TL body wb)
    (hsu : ∀ (a : Addr) (oe : Obj) (cls : Value) (d : Option Addr) (pn : List (Addr × Obj)), Zc cls d oe → (∃ vs, oe.data = .fields vs) → (∃ n C, (n, C) ∈ TL ∧ cls = .ref C) → JSs (X.suite a ((a, oe) :: pn)) (b₀ :: suite) (wh a cls d)) (hdb : (x == ("__debug__" : Str)) = false := by decide) :
    JSX X TL (.Try body [.ExceptHandler (some (.Name x np)) (some n) (b₀ :: suite) pos'] [] [] pos) (wTry i cat wb wh) := by
  obtain ⟨c, h1, h2⟩ := y
  exact jsx_try hs hf hN hi hln ⟨hg, hdb, .inl h1⟩ (fun n C m => (tl n C m).nm) h2 hb hsu
variable {a : Addr} {oe : Obj} {cls : Value} {d : Option Addr} {pn : List (Addr × Obj)} {pos p : Pos}
theorem je_isxx {i : Nat} {y c : Str} {isin : Str → Bool} {px py pc : Pos} (tl : TLok X.K TL) (ic : IC X.K X.mg TL c isin) (hz : Zc cls d oe) (hv : ∃ vs, oe.data = .fields vs) (hC : ∃ n C, (n, C) ∈ TL ∧ cls = .ref C) (hN : X.N[i]? = some y) (hvis : Vis X.env.scope y)
    (hgc : Gl X c) (hg : Gl X "isinstance") (hm : X.mg "isinstance" = none) (hd : (y == ("__debug__" : Str)) = false := by decide) (hcd : (y == ("__classdict__" : Str)) = false := by decide) (hdc : (c == ("__debug__" : Str)) = false := by decide)
    (hs1 : starEach [.Name y py, .Name c pc] X.env = (false, eval (.Name y py) X.env) :: starEach [.Name c pc] X.env := by rfl) (hs2 : starEach [.Name c pc] X.env = (false, eval (.Name c pc) X.env) :: starEach [] X.env := by rfl) (hpl : (backTo pos (starEach [.Name c pc] X.env)).any (·.1) = false := by rfl) :
    JE (X.suite a ((a, oe) :: pn)) (.Call (.Name "isinstance" px) [.Name y py, .Name c pc] [] pos) (wIsx a cls d i isin) := by
  obtain ⟨cc, h1, h2⟩ := ic
  exact je_isx (v := .ref cc) (cv := .ref cc) hN hvis hz hv hC (fun n C m => (tl n C m).nm) (fun n C m => ⟨(tl n C m).ec, h2 n C m⟩) (pe_glob (X := X.suite a ((a, oe) :: pn)) hgc h1 rfl hdc) (fun u r => r) hg hm hd hcd hs1 hs2 hpl
end
section
open PySem.W
variable {P : Program} {w : World} {K : Frag} {mg : Str → Option Value} {base h : Heap} {TL : XNames}
theorem xc0_mk {n : Str} {C : Addr} (KX : K.In h) (G : h.Ns mainGlobals mg) (hT : (n, C) ∈ TL) (F : CF K n C) (a : nsIn K mainGlobals n = some (some (.ref C))) (q : excIn K C [.type "ValueError", .type "Exception", .type "BaseException", .type "object"] "ValueError.__new__" = true) : XC0 K mg TL n :=
  ⟨C, _, hT, F, PySem.F.excBase_ValueError, q, mg_of KX G a⟩
end
def AllT (p : Str → Addr → Prop) : XNames → Prop
  | [] => True
  | q :: r => p q.1 q.2 ∧ AllT p r
theorem allT_of {p : Str → Addr → Prop} : ∀ {TL : XNames}, AllT p TL → ∀ n C, (n, C) ∈ TL → p n C
  | q :: r, ⟨h1, h2⟩, n, C, m => by
    rcases List.mem_cons.mp m with rfl | m
    · exact h1
    · exact allT_of h2 n C m
section
variable {X : Cx} {TL : XNames} {x : Str} {e : Expr} {pos p : Pos}
variable {a : Addr} {oe : Obj} {cls : Value} {d : Option Addr} {pn : List (Addr × Obj)}
end
end DL
set_option Elab.async false
set_option linter.all false
set_option maxRecDepth 100000
set_option maxHeartbeats 4000000
namespace DL
open PySem PySem.Spec PyProof.Rows L2 NdefX
variable [Tb]
section
variable {P : Program} {w : World} {K : PySem.W.Frag} {mg : Str → Option Value} {base : Heap}
end
end DL
set_option Elab.async false
set_option linter.all false
set_option maxRecDepth 100000
set_option maxHeartbeats 4000000
namespace DL
open PySem PySem.Spec PyProof.Rows L2 NdefX
section
variable {CX : CXT} {E : XK} {P : Program} {w : World} {K : PySem.W.Frag} {mg : Str → Option Value} {base : Heap} {N ps fr : List Str} {F : NF} {f : Addr} {k : Nat} {body : Expr} {tb : TE}
theorem code_lamG {A : Around} {outer : List Env} {s : Shared} {H : Hp} {us : List Value} {vs : List V} {ws : List (Option V)} {pm ctv : Value} {Q : VK} (S : NScope N ps fr F.scope) (room : RoomG (k + 1) A) (e0 : Env0 P w K mg base A outer s H)
    (ho : s.heap.get? f = some (lamO F body pm ctv)) (hc : H F.c = some (LamX.CodeO F.c F.qual)) (C : CellsAt F.cl fr ws s.heap H) (r : Vals vs us) (hl : vs.length = ps.length) (hb : LamB F body ps)
    (hbody : PE (ncx CX P w K mg base N F f A outer s H E) body tb) (h : tb (startF N vs ws) H Q) :
    codeAny (model P w) A (.call (.ref f) ⟨us, []⟩) (CR CX outer P w H s Q E) s := by
  have lim : s.heap.NoLimit := e0.mod.nolimit.keeps fun b o e => (e0.bs b o e).1
  refine PySem.W.kla_callFunE room.rm.depth ho rfl S.co S.gen rfl (codeO_at e0.hok hc) ?_
  rw [hb _ _ _ us (r.length ▸ hl)]
  refine wpAny_pure (wpAny_newFunctionEnv S.nocell (fun ⟨n, _⟩ hy => S.par n (List.of_mem_zip hy).1) (fun h₁ hns hsb => ⟨lim.fresh _ hsb, ?_⟩) S.kind)
  show codeAny _ _ (.expr body (envF F f s.heap.objs.size)) _ _
  have grown : ∀ b o, s.heap.get? b = some o → h₁.get? b = some o := fun b o q => hsb.extBut b o (Nat.ne_of_lt (Heap.lt_size q)) (Heap.get?_push_of_some _ q)
  have I := inv_startN (CX := CX) (E := E) (F := F) (f := f) (tk := s.toks + (ps.zip us).length) S room.rm.hd e0 hl r C hns grown
  refine PySem.W.kla_codeExpr (wpAny_mono (hbody.run [] _ (startF N vs ws) H Q I h) ?_ fun _ _ z => z)
  rintro u z ⟨v, H', J, rv, q⟩
  exact ⟨v, H', J.os, J.bare, J.base, J.hok, rv, q⟩
end
variable [Tb]
def tlX (bw : DEX) (n : Nat) (ds : List PyData) (xs : List PyData) (k : PyData → Prop) : Prop := xs = [] ∧ bw (start0 n (ds.map Cell.d)) (fun o δ' => lk o δ' fun y _ => k y) fun x _ => k x
def wActX (i : Nat) (f : Addr) (m : Hp) (tl : LTl) : DEX := fun δ R Z => δ[i]? = some (.fv f m) ∧ tl [] fun y => onX y (fun y => R (.d y) δ) (fun n fs => Z (excD n fs) δ) .mk
omit [Tb] in
@[simp ↓] theorem wActX_ap (i : Nat) (f : Addr) (m : Hp) (tl : LTl) (δ : DS) (R : Opd → DS → Prop) (Z : PyData → DS → Prop) : wActX i f m tl δ R Z = (δ[i]? = some (.fv f m) ∧ tl [] fun y => onX y (fun y => R (.d y) δ) (fun n fs => Z (excD n fs) δ) .mk) := rfl
section
variable {Z : Cx} {TL : XNames} {fr N : List Str} {F : NF} {f : Addr} {body : Expr} {wv : List V} {ds : List PyData} {k i : Nat} {m : Hp} {a : Str} {bw : DEX} {p pos : Pos}
theorem jex_act (L : LamAt Z [] fr N F f body (wv.map some)) (hr : RoomG (k + 1) Z.A) (hc : m F.c = some (LamX.CodeO F.c F.qual)) (hd : DnL Z.K m wv ds)
    (hbody : ∀ (A : Around) (outer : List Env) (s : Shared) (H : Hp) (E : XK), RoomG k (A.deeper (envF F f s.heap.objs.size)) → JEX (ncx (L2N.CX Z.prog Z.w) Z.prog Z.w Z.K Z.mg Z.base N F f A outer s H E) TL body bw)
    (hN : Z.N[i]? = some a) (hv : Vis Z.env.scope a) (hdb : (a == ("__debug__" : Str)) = false := by decide) (hcd : (a == ("__classdict__" : Str)) = false := by decide) :
    JEX Z TL (.Call (.Name a p) [] [] pos) (wActX i f m (tlX bw N.length ds)) := by
  obtain ⟨pm, ctv, ho⟩ := L.obj
  refine ⟨fun pins s σ H Q I ⟨B, G, δ, R, Zx, rel, ⟨hi, _, hw⟩, kk, tk⟩ => ?_⟩
  obtain ⟨o, hσ, rfl, sm⟩ := rel.at hi
  refine wpAny_Call_Name_kw (thn ((pe_var (pos := p) hN hv hdb hcd).run pins s σ H (fun v H1 => v = .ref f ∧ H1 = H) I ⟨.ref f, hσ, rfl, rfl⟩) fun u s1 ⟨v, H1, I1, r1, ev, eH⟩ => ?_)
  subst ev eH
  obtain rfl : u = Value.ref f := r1
  have there : s1.heap.get? f = some (lamO F body pm ctv) := I1.base.keep f _ ho L.new L.nfs (by rw [L.ex]; exact List.not_mem_nil)
  refine PySem.W.callWith_F0 ⟨_, _, _, _, there⟩ ?_
  have C := cells_on L.cells (show Un Z.fs [] Z.H_0 H1 Z.s_0.heap s1.heap by have := I1.base; rw [L.ex] at this; exact this)
  have all : DnL Z.K G wv ds := hd.mono sm
  have od : OpdsOk Z.K G σ wv (ds.map Opd.d) := opds_dn all
  have nd : (slotsOf (ds.map Opd.d)).Nodup := by rw [slots_d]; exact List.nodup_nil
  have rc := call_rel rel od nd
  rw [cells_d, slots_d] at rc
  have none' : ∀ {G' H' : Hp} {δ' : DS} {σ' : L2.St}, Same G G' → Rel Z.K (hold B H1 δ (slotsOf [])) G' δ' σ' H' → Rel Z.K B G' δ σ H' := fun s3 r3 =>
    call_back (os := []) (cs := []) rel .nil List.nodup_nil s3 (show Rel Z.K (hold B H1 δ (slotsOf [])) _ [] (([] : List V).map some) _ from r3.bare)
  have start : Rel Z.K (hold B H1 δ (slotsOf [])) G (start0 N.length (ds.map Cell.d)) (startF N [] (wv.map some)) H1 := by
    rw [startF_eq]
    exact rel_start rc
  have run := code_lamG (CX := L2N.CX Z.prog Z.w) (E := WE (wxOf Z.K TL B G Zx) σ) (Q := Q) L.sc hr I1.env0 there (rel.sg _ _ (sm _ _ hc)) C .nil rfl L.bind (hbody _ _ s1 H1 _ (hr.deeper _))
    ⟨_, G, _, _, _, start, hw, fun v H' G' o δ' r s3 rel3 ok3 => ?_, (L2N.takes_of (E := WE (wxOf Z.K TL B G Zx) σ) rfl rfl rfl rfl).imp fun cls d σ' H' ⟨G', δ', x, r, sG, rel', ex⟩ => ?_⟩
  · refine wpAny_call (codeAny_mono run ?_)
    rintro (err | _ | _ | _ | u) z back <;> first | exact L2N.passAt tk σ pins H1 s1 err z I1 back | exact False.elim back | exact I1.after back
  · obtain ⟨G4, δ4, y, ky, s4, rel4, dn⟩ := lk_ok rel3 ok3 r
    exact kk v H' G4 (.d y) δ (onX_no ky fun n fs e => by rw [e] at dn; exact dn_notX dn) (s3.trans s4) (none' (s3.trans s4) rel4) dn
  · obtain ⟨⟨n, C, fs, rfl, h2⟩, h3⟩ := ex
    exact ⟨G', δ, _, onX_yes r, sG, none' sG rel', ⟨⟨n, C, fs, rfl, h2⟩, h3⟩⟩
end
def ActsX (Z : Cx) (TL : XNames) (f : Addr) (m : Hp) (tl : LTl) : Prop := ∀ (pn : List (Addr × Obj)) (xe : Value → Shared → Prop) (i : Nat) (a : Str) (p pos : Pos), Z.N[i]? = some a → Vis Z.env.scope a → (a == ("__debug__" : Str)) = false → (a == ("__classdict__" : Str)) = false → JEX (Z.tr pn xe) TL (.Call (.Name a p) [] [] pos) (wActX i f m tl)
theorem ActsX.je {Z : Cx} {TL : XNames} {f : Addr} {m : Hp} {tl : LTl} (h : ActsX Z TL f m tl) {pn : List (Addr × Obj)} {xe : Value → Shared → Prop} {i : Nat} {a : Str} {p pos : Pos} (hN : Z.N[i]? = some a) (hv : Vis Z.env.scope a) (hd : (a == ("__debug__" : Str)) = false := by decide) (hcd : (a == ("__classdict__" : Str)) = false := by decide) :
    JEX (Z.tr pn xe) TL (.Call (.Name a p) [] [] pos) (wActX i f m tl) := h pn xe i a p pos hN hv hd hcd
structure FnLX (P : Program) (w : World) (K : PySem.W.Frag) (TL : XNames) (mg : Str → Option Value) (base : Heap) (k : Nat) (g : Addr) (fd : FuncData) (ps : List Str) (sp : LSp) : Prop where
  len : ∀ tl xs R, sp tl xs R → xs.length + 1 = ps.length
  run : ∀ (A : Around) (outer : List Env) (s : Shared) (H : Hp) (args : Args) (f : Addr) (us : List Value) (vs : List V) (m : Hp) (tl : LTl) (xs : List PyData) (R : PyData → Prop) (B G : Hp) (Q : VK), RoomG k A → Env0 P w K mg base A outer s H → BindsTo s fd args (ps.zip (.ref f :: us)) → Vals vs us →
    Rel K B G (.fv f m :: xs.map Cell.d) ((V.ref f :: vs).map some) H → (∀ (N : List Str) (qual : Str) (sc : Scope) (cd : Value), ActsX (takerX P w K mg base N qual sc g cd A outer s H) TL f m tl) → sp tl xs R →
    (∀ v H' G' y, R y → Same G G' → Rel K B G' [] [] H' → Dn K G' v y → Q v H') → codeAny (model P w) A (.call (.ref g) args) (CR CX0 outer P w H s Q E0) s
section
variable {P : Program} {w : World} {K : PySem.W.Frag} {TL : XNames} {mg : Str → Option Value} {base : Heap}
theorem FnLX.mono {j k : Nat} {g : Addr} {fd : FuncData} {ps : List Str} {sp : LSp} (F : FnLX P w K TL mg base j g fd ps sp) (h : j ≤ k) : FnLX P w K TL mg base k g fd ps sp :=
  ⟨F.len, fun A outer s H args f us vs m tl xs R B G Q room => F.run A outer s H args f us vs m tl xs R B G Q (room.mono h)⟩
theorem okLX {x qual : Str} {st : Stmt} {g : Addr} {fd : FuncData} {N ps : List Str} {k : Nat} {sp : LSp} {wb : Addr → Hp → LTl → DTS} (F : Fun K x qual st g fd) (S : FnScope N ps (defScope st)) (dl : ∀ tl xs R, sp tl xs R → xs.length + 1 = ps.length)
    (body : ∀ (cdv : Value) (A : Around) (outer : List Env) (s : Shared) (H : Hp) (f : Addr) (m : Hp) (tl : LTl), RoomG k (A.deeper (envOfC qual (defScope st) s.heap.objs.size g cdv)) → ActsX (takerX P w K mg base N qual (defScope st) g cdv A outer s H) TL f m tl → JSs (takerX P w K mg base N qual (defScope st) g cdv A outer s H) (defBody st) (wb f m tl))
    (rd : ∀ f m tl xs R, sp tl xs R → wb f m tl { nx := fun _ => R .none, rt := fun x _ => R x } (start0 N.length (.fv f m :: xs.map Cell.d))) : FnLX P w K TL mg base (k + 1) g fd ps sp := by
  obtain ⟨oc, od, kV, doc, pm, an, cdv, ct, osl, rfl, lk, hcd⟩ := F.ex
  refine ⟨dl, fun A outer s H args f us vs m tl xs R B G Q room e0 hb r rel acts hs kk => ?_⟩
  have many : (V.ref f :: vs).length = ps.length := by
    have h1 := rel.len
    have h2 := dl tl xs R hs
    simp only [List.length_map, List.length_cons] at h1 ⊢
    omega
  refine LamX.run_ofS lk hcd S room.rm e0 hb (.cons (show L2.RelV (.ref f) (.ref f) from rfl) r) many fun _ => ?_
  refine ⟨_, (body cdv A outer s H f m tl (room.deeper _) (acts N qual (defScope st) cdv)).nox, B, G, _, { nx := fun _ => R .none, rt := fun x _ => R x }, rel_start rel, rd f m tl xs R hs, ?_⟩
  exact ⟨fun σ' H' G' δ' r sG rel' => kk _ H' G' _ r sG rel'.bare .non, fun v σ' H' G' x δ' r sG rel' dn => kk v H' G' x r sG rel'.bare dn, fun _ _ _ _ h => h.elim, fun _ _ _ _ h => h.elim⟩
end
def wLamX (js : List Nat) (n : Nat) (bw : DEX) (sp : LSp) : DE := fun δ R => capC js δ fun ds => askL sp (tlX bw n ds) [] (fun y => R (.d y) δ) .mk
omit [Tb] in
@[simp ↓] theorem wLamX_ap (js : List Nat) (n : Nat) (bw : DEX) (sp : LSp) (δ : DS) (R : Opd → DS → Prop) : wLamX js n bw sp δ R = capC js δ fun ds => askL sp (tlX bw n ds) [] (fun y => R (.d y) δ) .mk := rfl
section
variable {X : Cx} {TL : XNames} {k j : Nat} {g c P : Addr} {fd : FuncData} {ps fr N : List Str} {sp : LSp} {x : Str} {params : Arguments} {body : Expr} {scope : Scope} {js : List Nat} {bw : DEX} {lpos p pos : Pos}
theorem je_lamX (F : FnLX X.prog X.w X.K TL X.mg X.base k g fd ps sp) (hr : RoomG k X.A) (hj : j + 2 ≤ k) (hg : Gl X x) (hm : X.mg x = some (.ref g)) (hk : PySem.W.keepIn X.K (.ref g) = true) (hb : Binds X.K fd ps [])
    (TB : LamX.TabB X.base X.mg c P) (hcode : X.env.code = .ref c) (hT : (P, X.env.qual ++ "<lambda>") ∈ Tb.T) (hu : ∀ p ∈ Tb.T, p.1 = P → p.2 = X.env.qual ++ "<lambda>") (hdef : defaultsOf params X.env = ([], []))
    (S : NScope N [] fr scope) (hfree : ∀ y ∈ scope.names, y.2 = .free → X.env.scope.names.lookup y.1 = some .cell ∨ X.env.scope.names.lookup y.1 = some .free) (hfr : ∀ y ∈ fr, (y, NameKind.free) ∈ scope.names) (hjs : js.map (fun j => X.N[j]?) = fr.map some)
    (hbind : ∀ (q : Str) (cl : List (Str × Addr)) (c' : Addr), LamB (lamF q params scope cl c') body [])
    (hbody : ∀ (A : Around) (outer : List Env) (s : Shared) (H : Hp) (f c' : Addr) (E : XK), RoomG j (A.deeper (envF (lamF X.env.qual params scope (cloFrom X.env.cells scope.names []) c') f s.heap.objs.size)) → JEX (ncx (L2N.CX X.prog X.w) X.prog X.w X.K X.mg X.base N (lamF X.env.qual params scope (cloFrom X.env.cells scope.names []) c') f A outer s H E) TL body bw)
    (hdb : (x == ("__debug__" : Str)) = false := by decide)
    (he : starEach [.Lambda params body scope lpos] X.env = (false, eval (.Lambda params body scope lpos) X.env) :: starEach [] X.env := by rfl) (hpl : (backTo pos (starEach ([] : List Expr) X.env)).any (·.1) = false := by rfl) :
    JE X (.Call (.Name x p) [.Lambda params body scope lpos] [] pos) (wLamX js N.length bw sp) := by
  refine ⟨fun pins s σ H Q I ⟨B, G, δ, R, rel, hw, kk⟩ => ?_⟩
  refine wpAny_Call_Name_kw (ld_glob I hg hm ?_ hdb)
  refine PySem.W.callWith_K (h₀ := X.base) I.ok.mod.kin hk ?_ he hpl
  show wpAny _ _ (spliced (backTo pos (starEach [.Lambda params body scope lpos] X.env))) _ _ s
  rw [he]
  refine Calls.spliced_cons (LamX.lam_make2 I TB hcode hT hu rel.tt.t hdef (fun y hy z => (hfree y hy z).elim (fun q => I.ok.has _ (.inl q)) fun q => I.ok.has _ (.inr q)) fun f c' pm ctv H1 s' I1 eN T1 hf hfn hfr' hco => ?_)
  refine Calls.spliced_nil ⟨I1.kIn, ?_⟩
  obtain ⟨G1, sG, gc, rel1⟩ := rel.lam eN T1 hco
  have nofs : f ∉ X.fs := fun z => hfr' (by
    rcases I1.ok.stk with q | ⟨q, hf'⟩
    · rw [q]; exact z
    · rw [q]
      unfold frs
      rw [List.filterMap_cons, hf']
      exact List.mem_cons_of_mem _ z)
  obtain ⟨wv, ds, ews, dds, hsp⟩ := cap_ok rel1 hw
  have nd : (slotsOf (([] : List PyData).map Opd.d)).Nodup := by rw [slots_d]; exact List.nodup_nil
  have rc := call_rel rel1 (opds_dn (K := X.K) (G := G1) (σ := σ) (vs := []) (xs := []) .nil) nd
  rw [cells_d, slots_d] at rc
  have cp : Caps X (cloFrom X.env.cells scope.names []) fr js := Caps.made I1.ok hfree hfr hjs
  have CA := cells_of I1 cp
  rw [ews] at CA
  have bound := hb s' [.ref f] I1.kIn (by have h1 := F.len _ _ _ hsp; simp only [List.length_nil, List.length_cons, List.append_nil] at h1 ⊢; omega)
  rw [List.append_nil] at bound
  obtain ⟨k', rfl⟩ : ∃ k', k = k' + 1 := ⟨k - 1, by omega⟩
  have run := F.run X.A X.stack s' H1 ⟨[.ref f], []⟩ f [] [] G1 (tlX bw N.length ds) [] (fun y => R (.d y) δ) _ G1 Q hr I1.env0 bound .nil (rc.consFv (Same.refl _)) (fun Ng qg sg cdg pn xe i a p pos hN hv hd hcd =>
    jex_act (k := j) (F := lamF X.env.qual params scope (cloFrom X.env.cells scope.names []) c') (body := body) ⟨S, ⟨pm, ctv, hf⟩, hfn, hfr', rfl, CA, hbind _ _ _⟩ ((hr.deeper _).mono (by omega)) gc dds (fun A outer s H E hr => hbody A outer s H f c' E hr) hN hv hd hcd) hsp fun v H' G' y hy s3 relE dn =>
      kk v H' G' (.d y) δ hy (sG.trans s3) (call_back (os := []) (cs := []) rel1 .nil List.nodup_nil s3 (show Rel X.K (hold B H1 δ (slotsOf [])) G' [] (([] : List V).map some) H' from relE)) dn
  show wpAny _ _ (call (.ref g) [.ref f]) _ _ _
  refine wpAny_call (codeAny_mono run ?_)
  rintro (err | _ | _ | _ | u) z back <;> first | exact False.elim back | exact I1.after back
end
section
variable {X : Cx} {TL : XNames} {a b : Expr} {rest : List Expr} {pos : Pos}
theorem jex_cmp {p : P2} {op : CmpOp} {wa : DEX} {wb : DE} (ho : OpD X (compareOp op) p) (ha : JEX X TL a wa) (hb : JE X b wb) (hm : behindInMarks op b = false := by rfl) : JEX X TL (.Compare a [op] [b] pos) (wOpX p wa (xE wb)) :=
  pe_le (pe_cmpR ho ha (jxe (TL := TL) hb) hm) fun pins s σ H Q I ⟨B, G, δ, R, Z, rel, hw, k, tk⟩ =>
    ⟨B, G, δ, _, Z, rel, hw, fun v H1 G1 o1 δ1 r1 s1 rel1 ok1 => ⟨B, G1, δ1, _, Z, rel1, r1, fun u H2 G2 o2 δ2 r2 s2 rel2 ok2 => by
      obtain ⟨x, q1, b1⟩ := use_ok rel2 (ok1.mono s2) r2
      obtain ⟨y, q2, b2⟩ := use_ok rel2 ok2 q1
      exact ⟨B, G2, δ2, σ, x, y, _, rel2, b1, b2, q2, fun v' H' G' z rz s3 rel3 dz => k v' H' G' _ _ rz (s1.trans (s2.trans s3)) rel3 dz⟩, tk.imp (wx_mono s1)⟩, tk⟩
omit [Tb] in
@[simp ↓] theorem wOpX_ap (p : P2) (wa wb : DEX) (δ : DS) (R : Opd → DS → Prop) (Z : PyData → DS → Prop) : wOpX p wa wb δ R Z = wa δ (fun o1 δ1 => wb δ1 (fun o2 δ2 => use o1 δ2 fun x => use o2 δ2 fun y => p x y fun z => R (.d z) δ2) Z) Z := rfl
def wAndX (wa wb : DEX) : DEX := fun δ R Z => wa δ (fun o δ1 => use o δ1 fun x => ∃ k, x = .bool k ∧ if k = true then wb δ1 R Z else R (.d (.bool false)) δ1) Z
theorem jex_and {wa wb : DEX} (ha : JEX X TL a wa) (hb : JEX X TL b wb) : JEX X TL (.BoolOp .And [a, b] pos) (wAndX wa wb) :=
  pe_le (pe_and ha (pe_one hb)) fun pins s σ H Q I ⟨B, G, δ, R, Z, rel, hw, k, tk⟩ => ⟨B, G, δ, _, Z, rel, hw, fun v H1 G1 o δ1 r1 s1 rel1 ok1 => by
    obtain ⟨x, ⟨c, rfl, q⟩, b1⟩ := use_ok rel1 ok1 r1
    refine ⟨c, bor_bool b1, ?_⟩
    cases c with
    | true => rw [if_pos rfl] at q ⊢; exact ⟨B, G1, δ1, _, Z, rel1, q, fun b H2 G2 o2 δ2 r2 s2 rel2 ok2 => k b H2 G2 o2 δ2 r2 (s1.trans s2) rel2 ok2, tk.imp (wx_mono s1)⟩
    | false => rw [if_neg Bool.false_ne_true] at q ⊢; exact k _ H1 G1 _ δ1 q s1 rel1 (Dn.bl false), tk⟩
omit [Tb] in
@[simp ↓] theorem wAndX_ap (wa wb : DEX) (δ : DS) (R : Opd → DS → Prop) (Z : PyData → DS → Prop) : wAndX wa wb δ R Z = wa δ (fun o δ1 => use o δ1 fun x => asB x (fun k => if k = true then wb δ1 R Z else R (.d (.bool false)) δ1) .mk) Z := by
  unfold wAndX; simp only [← ex_bool]
end
end DL
set_option Elab.async false
set_option linter.all false
set_option maxRecDepth 100000
set_option maxHeartbeats 4000000
namespace TW
open PySem PySem.Spec PyProof.Rows L2 DL
end TW
set_option Elab.async false
set_option linter.all false
set_option maxRecDepth 100000
set_option maxHeartbeats 4000000
namespace TW
open PySem PySem.Spec PyProof.Rows L2 DL
@[simp] theorem isTy_int_i (i : Int) : isTy "int" (.int i) = true := by rw [isTy, tyName]; decide
@[simp] theorem isTy_int_b (i : Bool) : isTy "int" (.bool i) = true := by rw [isTy, tyName]; decide
@[simp] theorem isTy_int_n : isTy "int" .none = false := by rw [isTy, tyName]; decide
@[simp] theorem isTy_int_s (i : Str) : isTy "int" (.str i) = false := by rw [isTy, tyName]; decide
@[simp] theorem isTy_int_l (i : List PyData) : isTy "int" (.list i) = false := by rw [isTy, tyName]; decide
@[simp] theorem isTy_int_t (i : List PyData) : isTy "int" (.tuple i) = false := by rw [isTy, tyName]; decide
@[simp] theorem isTy_int_d (i : List (PyData × PyData)) : isTy "int" (.dict i) = false := by cases i <;> (rw [isTy, tyName]; decide)
@[simp] theorem isTy_bool_i (i : Int) : isTy "bool" (.int i) = false := by rw [isTy, tyName]; decide
@[simp] theorem isTy_bool_b (i : Bool) : isTy "bool" (.bool i) = true := by rw [isTy, tyName]; decide
@[simp] theorem isTy_bool_n : isTy "bool" .none = false := by rw [isTy, tyName]; decide
@[simp] theorem isTy_bool_s (i : Str) : isTy "bool" (.str i) = false := by rw [isTy, tyName]; decide
@[simp] theorem isTy_bool_l (i : List PyData) : isTy "bool" (.list i) = false := by rw [isTy, tyName]; decide
@[simp] theorem isTy_bool_t (i : List PyData) : isTy "bool" (.tuple i) = false := by rw [isTy, tyName]; decide
@[simp] theorem isTy_bool_d (i : List (PyData × PyData)) : isTy "bool" (.dict i) = false := by cases i <;> (rw [isTy, tyName]; decide)
@[simp] theorem isTy_tuple_i (i : Int) : isTy "tuple" (.int i) = false := by rw [isTy, tyName]; decide
@[simp] theorem isTy_tuple_b (i : Bool) : isTy "tuple" (.bool i) = false := by rw [isTy, tyName]; decide
@[simp] theorem isTy_tuple_n : isTy "tuple" .none = false := by rw [isTy, tyName]; decide
@[simp] theorem isTy_tuple_s (i : Str) : isTy "tuple" (.str i) = false := by rw [isTy, tyName]; decide
@[simp] theorem isTy_tuple_l (i : List PyData) : isTy "tuple" (.list i) = false := by rw [isTy, tyName]; decide
@[simp] theorem isTy_tuple_t (i : List PyData) : isTy "tuple" (.tuple i) = true := by rw [isTy, tyName]; decide
@[simp] theorem isTy_tuple_d (i : List (PyData × PyData)) : isTy "tuple" (.dict i) = false := by cases i <;> (rw [isTy, tyName]; decide)
@[simp] theorem isTy_str_i (i : Int) : isTy "str" (.int i) = false := by rw [isTy, tyName]; decide
@[simp] theorem isTy_str_b (i : Bool) : isTy "str" (.bool i) = false := by rw [isTy, tyName]; decide
@[simp] theorem isTy_str_n : isTy "str" .none = false := by rw [isTy, tyName]; decide
@[simp] theorem isTy_str_s (i : Str) : isTy "str" (.str i) = true := by rw [isTy, tyName]; decide
@[simp] theorem isTy_str_l (i : List PyData) : isTy "str" (.list i) = false := by rw [isTy, tyName]; decide
@[simp] theorem isTy_str_t (i : List PyData) : isTy "str" (.tuple i) = false := by rw [isTy, tyName]; decide
@[simp] theorem isTy_str_d (i : List (PyData × PyData)) : isTy "str" (.dict i) = false := by cases i <;> (rw [isTy, tyName]; decide)
end TW
set_option Elab.async false
set_option linter.all false
set_option maxRecDepth 100000
set_option maxHeartbeats 4000000
namespace K25
open PySem PySem.Spec PyProof.Rows L2 DL TW
abbrev sp_law : DSp := spLaw
structure GP (n : Nat) (a b : List Int) : Prop where
  la : a.length = n
  lb : b.length = n
  n0 : 0 < n
  n4 : n ≤ 4
  pa : ∀ x ∈ a, 1 ≤ x ∧ x ≤ 1000
  pb : ∀ x ∈ b, 1 ≤ x ∧ x ≤ 1000
def unlikeD : PyData := excD "UnlikeAxes" []
def sp_escape_k25 : DSp := fun cs R => ∃ (a b c d : List Int) (n m : Nat), cs = [.d (prD a b), .d (prD c d)] ∧ GP n a b ∧ GP m c d ∧ R (if n = m then escF a b c d else unlikeD) cs
def sp_within_k25 : DSp := fun cs R => ∃ (a b c d : List Int) (n m : Nat), cs = [.d (prD a b), .d (prD c d)] ∧ GP n a b ∧ GP m c d ∧ R (if n = m then .bool (withinB a b c d) else unlikeD) cs
def sp_alike_k25 : DSp := fun cs R => ∃ (a b c d : List Int) (n m : Nat), cs = [.d (prD a b), .d (prD c d)] ∧ GP n a b ∧ GP m c d ∧ R (if n = m then .bool (withinB a b c d && withinB c d a b) else unlikeD) cs
def sp_Lnear : DSp := fun cs R => ∃ (a b c : Addr) (p q : List Int) (n : Nat), cs = [.dk a b c, .d (prD p q)] ∧ GP n p q ∧ TW.In 9 p ∧ TW.In 9 q ∧ ∀ x y : List Int, GP n x y → R (prD x y) cs
def sp_Lis_refused : LSp := fun tl xs R => xs = [] ∧ (∀ k : PyData → Prop, k unlikeD → tl [] k) ∧ R (.bool true)
theorem ln_Lis_refused : ∀ tl xs R, sp_Lis_refused tl xs R → xs.length + 1 = 1 := by
  rintro tl xs R ⟨rfl, _⟩; rfl
def w_escape_k25_1 : DTS := (wIf (wNot (wB (wCall [] sp_is_filled (wCons (wVar 1) (wCons (wVar 2) wNil))))) (wRet (wVar 2)) wNext)
def w_escape_k25_t1 : DTS := (wSeq (wFor (iSeq (wVar 0)) (gN 2) w_escape_k25_1) (wRet (wC .none)))
def w_escape_k25 : DTS := (wSeq (wIf (wB (wOp pNe (wFn pLen (wCons (wOp pIx (wVar 0) (wC (.int 0))) wNil)) (wFn pLen (wCons (wOp pIx (wVar 1) (wC (.int 0))) wNil)))) (wRaise (wMk0 "UnlikeAxes")) wNext) w_escape_k25_t1)
def w_within_k25 : DTS := (wRetX (wOpX pIs (wCallX [] sp_escape_k25 (xA (wCons (wVar 0) (wCons (wVar 1) wNil)))) (xE (wC .none))))
def w_alike_k25 : DTS := (wRetX (wAndX (wCallX [] sp_within_k25 (xA (wCons (wVar 0) (wCons (wVar 1) wNil)))) (wCallX [] sp_within_k25 (xA (wCons (wVar 1) (wCons (wVar 0) wNil))))))
def w_Lnear_1 : DTS := (wRet (wTup (wCons (wOp pIx (wVar 1) (wC (.int 0))) (wCons (wCall [] sp_Lwith (wCons (wOp pIx (wVar 1) (wC (.int 1))) (wCons (wVar 4) (wCons (wOp pAddB (wC (.int 1)) (wCall [true, false] sp_Ldraw (wCons (wVar 0) (wCons (wC (.int 9)) wNil)))) wNil)))) wNil))))
def w_Lnear_t1 : DTS := (wRet (wTup (wCons (wCall [true, false, false] sp_Lplain_box (wCons (wVar 0) (wCons (wVar 1) (wCons (wC (.int 2)) wNil)))) (wCons (wOp pIx (wVar 1) (wCall [true, false] sp_Ldraw (wCons (wVar 0) (wCons (wC (.int 2)) wNil)))) wNil))))
def w_Lnear_s1 : DTS := (wSeq (wIf (wB (wOp pEq (wVar 2) (wC (.int 2)))) w_Lnear_1 wNext) w_Lnear_t1)
@[simp ↓] theorem w_Lnear_s1_ap (E : DEnds) (δ : DS) : w_Lnear_s1 E δ = (wSeq (wIf (wB (wOp pEq (wVar 2) (wC (.int 2)))) w_Lnear_1 wNext) w_Lnear_t1) E δ := rfl
def w_Lnear_t2 : DTS := (wSeq (wSet 4 (mE (wCall [true, false] sp_Ldraw (wCons (wVar 0) (wCons (wVar 3) wNil))))) w_Lnear_s1)
def w_Lnear_4 : DTS := (wRet (wTup (wCons (wCall [true, false, false] sp_Lplain_box (wCons (wVar 0) (wCons (wVar 1) (wCons (wC (.int 3)) wNil)))) (wCons (wCall [true, false, false] sp_Lcut_box (wCons (wVar 0) (wCons (wVar 1) (wCons (wC (.int 3)) wNil)))) wNil))))
def w_Lnear_t3 : DTS := (wSeq (wIf (wB (wOp pEq (wVar 2) (wC (.int 1)))) (wRet (wRevA (wVar 1))) wNext) w_Lnear_t2)
def w_Lnear_s2 : DTS := (wSeq (wIf (wB (wOp pEq (wVar 2) (wC (.int 0)))) w_Lnear_4 wNext) w_Lnear_t3)
@[simp ↓] theorem w_Lnear_s2_ap (E : DEnds) (δ : DS) : w_Lnear_s2 E δ = (wSeq (wIf (wB (wOp pEq (wVar 2) (wC (.int 0)))) w_Lnear_4 wNext) w_Lnear_t3) E δ := rfl
def w_Lnear : DTS := (wSeq (wPar2 2 3 (msCons (mE (wCall [true, false] sp_Ldraw (wCons (wVar 0) (wCons (wC (.int 4)) wNil)))) (msCons (mE (wFn pLen (wCons (wOp pIx (wVar 1) (wC (.int 0))) wNil))) msNil))) w_Lnear_s2)
def w_Lis_refused_1 (f : Addr) (m : Hp) (tl : LTl) : DTS := (wSeq (wDropX (wActX 0 f m tl)) (wSet 1 (mE (wC (.bool false)))))
def w_Lis_refused (f : Addr) (m : Hp) (tl : LTl) : DTS := (wSeq (wNoX (wTry 2 (fun _ => true) (w_Lis_refused_1 f m tl) (fun a cls d => (wSet 1 (mE (wIsx a cls d 2 (fun _ => true))))))) (wRet (wVar 1)))
def w_law_s1 : DTS := (wIf (wB (wOp pNe (wVar 13) (wOp pMulT (wOfL (wLst (wCons (wC (.bool true)) wNil))) (wC (.int 3))))) (wRet (wC (.bool false))) wNext)
@[simp ↓] theorem w_law_s1_ap (E : DEnds) (δ : DS) : w_law_s1 E δ = (wIf (wB (wOp pNe (wVar 13) (wOp pMulT (wOfL (wLst (wCons (wC (.bool true)) wNil))) (wC (.int 3))))) (wRet (wC (.bool false))) wNext) E δ := rfl
def w_law_s2 : DTS := (wSeq (wAppend 13 (wLamX [4, 12] 2 (wCallX [] sp_alike_k25 (xA (wCons (wVar 0) (wCons (wVar 1) wNil)))) sp_Lis_refused)) w_law_s1)
@[simp ↓] theorem w_law_s2_ap (E : DEnds) (δ : DS) : w_law_s2 E δ = (wSeq (wAppend 13 (wLamX [4, 12] 2 (wCallX [] sp_alike_k25 (xA (wCons (wVar 0) (wCons (wVar 1) wNil)))) sp_Lis_refused)) w_law_s1) E δ := rfl
def w_law_s3 : DTS := (wSeq (wAppend 13 (wLamX [12, 4] 2 (wCallX [] sp_escape_k25 (xA (wCons (wVar 0) (wCons (wVar 1) wNil)))) sp_Lis_refused)) w_law_s2)
@[simp ↓] theorem w_law_s3_ap (E : DEnds) (δ : DS) : w_law_s3 E δ = (wSeq (wAppend 13 (wLamX [12, 4] 2 (wCallX [] sp_escape_k25 (xA (wCons (wVar 0) (wCons (wVar 1) wNil)))) sp_Lis_refused)) w_law_s2) E δ := rfl
def w_law_s4 : DTS := (wSeq (wSet 13 (mL (wLst (wCons (wLamX [4, 12] 2 (wCallX [] sp_within_k25 (xA (wCons (wVar 0) (wCons (wVar 1) wNil)))) sp_Lis_refused) wNil)))) w_law_s3)
@[simp ↓] theorem w_law_s4_ap (E : DEnds) (δ : DS) : w_law_s4 E δ = (wSeq (wSet 13 (mL (wLst (wCons (wLamX [4, 12] 2 (wCallX [] sp_within_k25 (xA (wCons (wVar 0) (wCons (wVar 1) wNil)))) sp_Lis_refused) wNil)))) w_law_s3) E δ := rfl
def w_law_t1 : DTS := (wSeq (wSet 12 (mE (wIfE (wB (wOp pLt (wVar 3) (wC (.int 4)))) (wFn pTupOf (wCons (wOfL (wComp (iSeq (wVar 4)) (gN 7) tT (wOp pAddB (wVar 7) (wTup (wCons (wC (.int 1)) wNil))) [7])) wNil)) (wFn pTupOf (wCons (wOfL (wComp (iSeq (wVar 4)) (gN 7) tT (wSl pSl (wVar 7) (wPart (wC (.int 1))) wNoP) [7])) wNil))))) w_law_s4)
def w_law_s5 : DTS := (wSeq (wIf (wOr (wB (wOp pNe (wFn pReprN (wCons (wVar 10) wNil)) (wFn pReprN (wCons (wVar 11) wNil)))) (wOr (wB (wOp pIsNot (nX (wCallX [] sp_alike_k25 (xA (wCons (wVar 4) (wCons (wVar 4) wNil))))) (wC (.bool true)))) (wB (wOp pIsNot (nX (wCallX [] sp_escape_k25 (xA (wCons (wVar 4) (wCons (wVar 4) wNil))))) (wC .none))))) (wRet (wC (.bool false))) wNext) w_law_t1)
@[simp ↓] theorem w_law_s5_ap (E : DEnds) (δ : DS) : w_law_s5 E δ = (wSeq (wIf (wOr (wB (wOp pNe (wFn pReprN (wCons (wVar 10) wNil)) (wFn pReprN (wCons (wVar 11) wNil)))) (wOr (wB (wOp pIsNot (nX (wCallX [] sp_alike_k25 (xA (wCons (wVar 4) (wCons (wVar 4) wNil))))) (wC (.bool true)))) (wB (wOp pIsNot (nX (wCallX [] sp_escape_k25 (xA (wCons (wVar 4) (wCons (wVar 4) wNil))))) (wC .none))))) (wRet (wC (.bool false))) wNext) w_law_t1) E δ := rfl
def w_law_s6 : DTS := (wSeq (wSet 11 (mE (wOfL (wLst (wCons (wOp pEq (wOp pIx (wVar 6) (wC (.int 0))) (wOfL (wLst wNil))) (wCons (wOp pEq (wOp pIx (wVar 6) (wC (.int 1))) (wOfL (wLst wNil))) (wCons (wOp pIx (wOp pAddB (wOp pIx (wVar 6) (wC (.int 0))) (wOfL (wLst (wCons (wC .none) wNil)))) (wC (.int 0))) (wCons (wOp pIx (wOp pAddB (wOp pIx (wVar 6) (wC (.int 1))) (wOfL (wLst (wCons (wC .none) wNil)))) (wC (.int 0))) (wCons (wOp pEq (wVar 6) (wOfL (wLst (wCons (wOfL (wLst wNil)) (wCons (wOfL (wLst wNil)) wNil))))) wNil))))))))) w_law_s5)
@[simp ↓] theorem w_law_s6_ap (E : DEnds) (δ : DS) : w_law_s6 E δ = (wSeq (wSet 11 (mE (wOfL (wLst (wCons (wOp pEq (wOp pIx (wVar 6) (wC (.int 0))) (wOfL (wLst wNil))) (wCons (wOp pEq (wOp pIx (wVar 6) (wC (.int 1))) (wOfL (wLst wNil))) (wCons (wOp pIx (wOp pAddB (wOp pIx (wVar 6) (wC (.int 0))) (wOfL (wLst (wCons (wC .none) wNil)))) (wC (.int 0))) (wCons (wOp pIx (wOp pAddB (wOp pIx (wVar 6) (wC (.int 1))) (wOfL (wLst (wCons (wC .none) wNil)))) (wC (.int 0))) (wCons (wOp pEq (wVar 6) (wOfL (wLst (wCons (wOfL (wLst wNil)) (wCons (wOfL (wLst wNil)) wNil))))) wNil))))))))) w_law_s5) E δ := rfl
def w_law_s7 : DTS := (wSeq (wSet 10 (mE (wOfL (wLst (wCons (nX (wCallX [] sp_within_k25 (xA (wCons (wVar 4) (wCons (wVar 5) wNil))))) (wCons (nX (wCallX [] sp_within_k25 (xA (wCons (wVar 5) (wCons (wVar 4) wNil))))) (wCons (nX (wCallX [] sp_escape_k25 (xA (wCons (wVar 4) (wCons (wVar 5) wNil))))) (wCons (nX (wCallX [] sp_escape_k25 (xA (wCons (wVar 5) (wCons (wVar 4) wNil))))) (wCons (nX (wCallX [] sp_alike_k25 (xA (wCons (wVar 4) (wCons (wVar 5) wNil))))) wNil))))))))) w_law_s6)
@[simp ↓] theorem w_law_s7_ap (E : DEnds) (δ : DS) : w_law_s7 E δ = (wSeq (wSet 10 (mE (wOfL (wLst (wCons (nX (wCallX [] sp_within_k25 (xA (wCons (wVar 4) (wCons (wVar 5) wNil))))) (wCons (nX (wCallX [] sp_within_k25 (xA (wCons (wVar 5) (wCons (wVar 4) wNil))))) (wCons (nX (wCallX [] sp_escape_k25 (xA (wCons (wVar 4) (wCons (wVar 5) wNil))))) (wCons (nX (wCallX [] sp_escape_k25 (xA (wCons (wVar 5) (wCons (wVar 4) wNil))))) (wCons (nX (wCallX [] sp_alike_k25 (xA (wCons (wVar 4) (wCons (wVar 5) wNil))))) wNil))))))))) w_law_s6) E δ := rfl
def w_law_s8 : DTS := (wSeq (wSet 6 (mE (wOfL (wComp (iSeq (wTup (wCons (wTup (wCons (wVar 4) (wCons (wVar 5) wNil))) (wCons (wTup (wCons (wVar 5) (wCons (wVar 4) wNil))) wNil)))) (gT (gsCons (gN 8) (gsCons (gN 9) gsNil))) tT (wOfL (wComp (iSeq (wVar 8)) (gN 7) (wNot (wB (wCall [] sp_Lis_filled (wCons (wVar 9) (wCons (wVar 7) wNil))))) (wVar 7) [7])) [8, 9])))) w_law_s7)
@[simp ↓] theorem w_law_s8_ap (E : DEnds) (δ : DS) : w_law_s8 E δ = (wSeq (wSet 6 (mE (wOfL (wComp (iSeq (wTup (wCons (wTup (wCons (wVar 4) (wCons (wVar 5) wNil))) (wCons (wTup (wCons (wVar 5) (wCons (wVar 4) wNil))) wNil)))) (gT (gsCons (gN 8) (gsCons (gN 9) gsNil))) tT (wOfL (wComp (iSeq (wVar 8)) (gN 7) (wNot (wB (wCall [] sp_Lis_filled (wCons (wVar 9) (wCons (wVar 7) wNil))))) (wVar 7) [7])) [8, 9])))) w_law_s7) E δ := rfl
def w_law_s9 : DTS := (wSeq (wSet 5 (mE (wCall [true, false] sp_Lone (wCons (wVar 1) (wCons (wOfL (wLst (wCons (wCall [true, false] sp_Lnear (wCons (wVar 1) (wCons (wVar 4) wNil))) (wCons (wCall [true, false, false] sp_Lpair (wCons (wVar 1) (wCons (wVar 3) (wCons (wC (.int 5)) wNil)))) (wCons (wVar 4) wNil))))) wNil))))) w_law_s8)
@[simp ↓] theorem w_law_s9_ap (E : DEnds) (δ : DS) : w_law_s9 E δ = (wSeq (wSet 5 (mE (wCall [true, false] sp_Lone (wCons (wVar 1) (wCons (wOfL (wLst (wCons (wCall [true, false] sp_Lnear (wCons (wVar 1) (wCons (wVar 4) wNil))) (wCons (wCall [true, false, false] sp_Lpair (wCons (wVar 1) (wCons (wVar 3) (wCons (wC (.int 5)) wNil)))) (wCons (wVar 4) wNil))))) wNil))))) w_law_s8) E δ := rfl
def w_law_s10 : DTS := (wSeq (wSet 4 (mE (wCall [true, false, false] sp_Lpair (wCons (wVar 1) (wCons (wVar 3) (wCons (wC (.int 9)) wNil)))))) w_law_s9)
@[simp ↓] theorem w_law_s10_ap (E : DEnds) (δ : DS) : w_law_s10 E δ = (wSeq (wSet 4 (mE (wCall [true, false, false] sp_Lpair (wCons (wVar 1) (wCons (wVar 3) (wCons (wC (.int 9)) wNil)))))) w_law_s9) E δ := rfl
def w_law_2 : DTS := (wSeq (wSet 3 (mE (wOp pAddB (wC (.int 1)) (wCall [true, false] sp_Ldraw (wCons (wVar 1) (wCons (wC (.int 4)) wNil)))))) w_law_s10)
def w_law_s11 : DTS := (wSeq (wFor (iRange1 (wCons (wC (.int 10)) wNil)) (gN 2) w_law_2) (wRet (wC (.bool true))))
@[simp ↓] theorem w_law_s11_ap (E : DEnds) (δ : DS) : w_law_s11 E δ = (wSeq (wFor (iRange1 (wCons (wC (.int 10)) wNil)) (gN 2) w_law_2) (wRet (wC (.bool true)))) E δ := rfl
def w_law : DTS := (wSeq (wSet 1 (wCallM [true] sp_Ldeck (wCons (wVar 0) wNil))) w_law_s11)
theorem ln_escape_k25 : ∀ cs R, sp_escape_k25 cs R → cs.length = 2 := by
  intro cs R h
  unfold sp_escape_k25 at h
  repeat (obtain ⟨_, h⟩ := h)
  subst_vars; rfl
theorem ln_within_k25 : ∀ cs R, sp_within_k25 cs R → cs.length = 2 := by
  intro cs R h
  unfold sp_within_k25 at h
  repeat (obtain ⟨_, h⟩ := h)
  subst_vars; rfl
theorem ln_alike_k25 : ∀ cs R, sp_alike_k25 cs R → cs.length = 2 := by
  intro cs R h
  unfold sp_alike_k25 at h
  repeat (obtain ⟨_, h⟩ := h)
  subst_vars; rfl
theorem ln_Lnear : ∀ cs R, sp_Lnear cs R → cs.length = 2 := by
  intro cs R h
  unfold sp_Lnear at h
  repeat (obtain ⟨_, h⟩ := h)
  subst_vars; rfl
theorem ln_law : ∀ cs R, sp_law cs R → cs.length = 1 := by
  intro cs R h
  unfold sp_law at h
  repeat (obtain ⟨_, h⟩ := h)
  subst_vars; rfl
end K25
set_option Elab.async false
set_option linter.all false
set_option maxRecDepth 100000
set_option maxHeartbeats 4000000
namespace K25
open PySem PySem.Spec PyProof.Rows L2 DL TW
theorem GP.pb' {n : Nat} {a b c d : List Int} (h : GP n a b) (g : GP n c d) : PB c d a ∧ PB c d b := by
  obtain ⟨la, lb, n0, n1, pa, pb⟩ := h
  obtain ⟨lx, ly, _, _, px, py⟩ := g
  have q : ∀ {x : Int}, 1 ≤ x ∧ x ≤ 1000 → Pos x := fun h => Pos.of h.1 (by omega)
  exact ⟨⟨by omega, by omega, by omega, by omega, fun x h => q (px x h), fun x h => q (py x h), fun x h => q (pa x h)⟩, ⟨by omega, by omega, by omega, by omega, fun x h => q (px x h), fun x h => q (py x h), fun x h => q (pb x h)⟩⟩
theorem rd_escape_k25 : ∀ cs R, sp_escape_k25 cs R → w_escape_k25 (endsOf cs R) (start0 3 cs) := by
  rintro _ R ⟨a, b, c, d, n, m, rfl, h, g, hR⟩
  have l1 := h.la
  have l2 := h.n4
  have l3 := g.la
  have l4 := g.n4
  simp -implicitDefEqProofs -dsimp [w_escape_k25]
  by_cases e : n = m
  · rw [if_pos e] at hR
    subst e
    obtain ⟨ha, hb⟩ := h.pb' g
    have el : (a.length : Int) = c.length := by omega
    rw [if_pos el]
    simp -implicitDefEqProofs -dsimp [w_escape_k25_t1, for_cons]
    simp -implicitDefEqProofs -dsimp [w_escape_k25_1]
    refine ask_of (sp := sp_is_filled) ⟨c, d, a, rfl, ha, ?_⟩
    (try simp -implicitDefEqProofs -dsimp)
    unfold escF at hR
    cases ea : fillB c d a
    · (try simp -implicitDefEqProofs -dsimp)
      simpa [ea] using hR
    · simp -implicitDefEqProofs -dsimp [forK_ap, for_cons]
      simp -implicitDefEqProofs -dsimp [w_escape_k25_1]
      refine ask_of (sp := sp_is_filled) ⟨c, d, b, rfl, hb, ?_⟩
      (try simp -implicitDefEqProofs -dsimp)
      cases eb : fillB c d b
      · (try simp -implicitDefEqProofs -dsimp)
        simpa [ea, eb] using hR
      · simp -implicitDefEqProofs -dsimp [forK_ap, for_nil]
        simpa [ea, eb] using hR
  · rw [if_neg e] at hR
    have el : (a.length : Int) ≠ c.length := by omega
    rw [if_neg el]
    exact hR
theorem esc_nx {a b c d : List Int} : notX (escF a b c d) := by
  unfold escF
  split
  · exact notX_tup _
  · split
    · exact notX_tup _
    · exact notX_none
theorem rd_within_k25 : ∀ cs R, sp_within_k25 cs R → w_within_k25 (endsOf cs R) (start0 2 cs) := by
  rintro _ R ⟨a, b, c, d, n, m, rfl, h, g, hR⟩
  simp -implicitDefEqProofs -dsimp [w_within_k25]
  refine ask_of (sp := sp_escape_k25) ⟨a, b, c, d, n, m, rfl, h, g, ?_⟩
  by_cases e : n = m
  · rw [if_pos e] at hR ⊢
    have e2 : isNone (escF a b c d) = withinB a b c d := by
      unfold escF withinB
      cases fillB c d a <;> cases fillB c d b <;> rfl
    rw [onX_of esc_nx]
    (try simp -implicitDefEqProofs -dsimp)
    rw [e2]
    exact hR
  · rw [if_neg e] at hR ⊢
    unfold unlikeD at hR ⊢
    (try simp -implicitDefEqProofs -dsimp)
    exact hR
theorem rd_alike_k25 : ∀ cs R, sp_alike_k25 cs R → w_alike_k25 (endsOf cs R) (start0 2 cs) := by
  rintro _ R ⟨a, b, c, d, n, m, rfl, h, g, hR⟩
  simp -implicitDefEqProofs -dsimp [w_alike_k25]
  refine ask_of (sp := sp_within_k25) ⟨a, b, c, d, n, m, rfl, h, g, ?_⟩
  by_cases e : n = m
  · rw [if_pos e] at hR ⊢
    (try simp -implicitDefEqProofs -dsimp)
    cases w : withinB a b c d
    · (try simp -implicitDefEqProofs -dsimp)
      simpa [w] using hR
    · (try simp -implicitDefEqProofs -dsimp)
      refine ask_of (sp := sp_within_k25) ⟨c, d, a, b, m, n, rfl, g, h, ?_⟩
      rw [if_pos e.symm]
      (try simp -implicitDefEqProofs -dsimp)
      simpa [w] using hR
  · rw [if_neg e] at hR ⊢
    unfold unlikeD at hR ⊢
    (try simp -implicitDefEqProofs -dsimp)
    exact hR
theorem rd_Lis_refused : ∀ f m tl xs R, sp_Lis_refused tl xs R → w_Lis_refused f m tl { nx := fun _ => R .none, rt := fun x _ => R x } (start0 3 (.fv f m :: xs.map Cell.d)) := by
  rintro f m tl xs R ⟨rfl, ht, hR⟩
  simp -implicitDefEqProofs -dsimp [w_Lis_refused]
  simp -implicitDefEqProofs -dsimp [w_Lis_refused_1]
  refine ht _ ?_
  unfold unlikeD
  (try simp -implicitDefEqProofs -dsimp)
  exact hR

theorem gp_plain {n : Nat} {p y : List Int} {m : Int} (m1 : m ≤ 3) (ip : TW.In 9 p) (lp : p.length = n) (h : IsPlainBox p y m) : y.length = n ∧ ∀ x ∈ y, 1 ≤ x ∧ x ≤ 1000 := by
  obtain ⟨l, h⟩ := h
  refine ⟨by omega, all_gi fun i hi => ?_⟩
  obtain ⟨k, k1, k2, e⟩ := h i (by omega)
  have b := ip _ (gi_mem (show i < p.length by omega))
  have : k = 1 ∨ k = 2 ∨ k = 3 := by omega
  rw [e]
  rcases this with rfl | rfl | rfl <;> omega
theorem gp_cut {n : Nat} {p q z : List Int} (ip : TW.In 9 p) (iq : TW.In 9 q) (lp : p.length = n) (lq : q.length = n) (hz : IsCutBox p q z 3) : z.length = n ∧ ∀ x ∈ z, 1 ≤ x ∧ x ≤ 1000 := by
  obtain ⟨l, at', s, t, ha, s0, s1, t0, t1, h⟩ := hz
  refine ⟨by omega, all_gi fun i hi => ?_⟩
  have b := ip _ (gi_mem (show i < p.length by omega))
  have b2 := iq _ (gi_mem (show i < q.length by omega))
  rw [h i (by omega)]
  split
  · have : (s = 0 ∨ s = 1 ∨ s = 2) ∧ (t = 1 ∨ t = 2 ∨ t = 3) := by omega
    obtain ⟨h1 | h1 | h1, h2 | h2 | h2⟩ := this <;> subst h1 h2 <;> omega
  · obtain ⟨m1, m2, _, _⟩ := lcm_pos b.1 b2.1
    have := Int.mul_le_mul_of_nonneg_left (show gi q i ≤ 9 by omega) (show 0 ≤ gi p i by omega)
    omega
theorem rd_Lnear : ∀ cs R, sp_Lnear cs R → w_Lnear (endsOf cs R) (start0 5 cs) := by
  rintro _ R ⟨a1, a2, a3, p, q, n, rfl, h, ip, iq, hR⟩
  have lp := h.la
  have lq := h.lb
  have n0 := h.n0
  have n4 := h.n4
  have pr : Pr p q := ⟨by omega, by omega, by omega, fun x hx => by have := ip x hx; omega, fun x hx => by have := iq x hx; omega⟩
  simp -implicitDefEqProofs -dsimp [w_Lnear]
  refine ask_draw (by omega) (by omega) fun way d0 d1 => ?_
  (try simp -implicitDefEqProofs -dsimp)
  by_cases e0 : way = 0
  · subst e0
    simp -implicitDefEqProofs -dsimp [w_Lnear_4]
    refine ask_of (sp := sp_Lplain_box) ⟨_, _, _, p, q, 3, rfl, pr, by omega, by omega, fun y hy => ?_⟩
    (try simp -implicitDefEqProofs -dsimp)
    refine ask_of (sp := sp_Lcut_box) ⟨_, _, _, p, q, 3, rfl, pr, by omega, by omega, fun z hz => ?_⟩
    (try simp -implicitDefEqProofs -dsimp)
    obtain ⟨lz, bz⟩ := gp_cut ip iq lp lq hz
    have yy : y.length = n ∧ ∀ x ∈ y, 1 ≤ x ∧ x ≤ 1000 := by
      rcases hy with hy | hy
      · exact gp_plain (by omega) ip lp hy
      · exact gp_plain (by omega) iq lq hy
    exact hR y z ⟨yy.1, lz, n0, n4, yy.2, bz⟩
  · rw [if_neg e0]
    simp -implicitDefEqProofs -dsimp [w_Lnear_t3]
    by_cases e1 : way = 1
    · subst e1
      (try simp -implicitDefEqProofs -dsimp)
      exact hR q p ⟨lq, lp, n0, n4, h.pb, h.pa⟩
    · rw [if_neg e1]
      simp -implicitDefEqProofs -dsimp [w_Lnear_t2]
      refine ask_draw (by omega) (by omega) fun ax x0 x1 => ?_
      (try simp -implicitDefEqProofs -dsimp)
      by_cases e2 : way = 2
      · subst e2
        simp -implicitDefEqProofs -dsimp [w_Lnear_1]
        refine ask_draw (by omega) (by omega) fun s s0 s1 => ?_
        (try simp -implicitDefEqProofs -dsimp)
        obtain ⟨k, rfl⟩ : ∃ k : Nat, ax = (k : Int) := ⟨ax.toNat, by omega⟩
        refine ask_of (sp := sp_Lwith) ⟨lI q, k, .int (1 + s), rfl, by simp; omega, by simp; omega, ?_⟩
        have es : PyData.tuple ((lI q).set k (.int (1 + s))) = tI (q.set k (1 + s)) := by rw [tI, lI, lI, List.map_set]
        rw [es]
        (try simp -implicitDefEqProofs -dsimp)
        refine hR p (q.set k (1 + s)) ⟨lp, by simp; omega, n0, n4, h.pa, fun x hx => ?_⟩
        rcases List.mem_or_eq_of_mem_set hx with m | rfl
        · exact h.pb x m
        · omega
      · rw [if_neg e2]
        simp -implicitDefEqProofs -dsimp [w_Lnear_t1]
        refine ask_of (sp := sp_Lplain_box) ⟨_, _, _, p, q, 2, rfl, pr, by omega, by omega, fun y hy => ?_⟩
        (try simp -implicitDefEqProofs -dsimp)
        have yy : y.length = n ∧ ∀ x ∈ y, 1 ≤ x ∧ x ≤ 1000 := by
          rcases hy with hy | hy
          · exact gp_plain (by omega) ip lp hy
          · exact gp_plain (by omega) iq lq hy
        refine ask_draw (by omega) (by omega) fun s s0 s1 => ?_
        have : s = 0 ∨ s = 1 := by omega
        rcases this with rfl | rfl
        · (try simp -implicitDefEqProofs -dsimp)
          exact hR y p ⟨yy.1, lp, n0, n4, yy.2, h.pa⟩
        · (try simp -implicitDefEqProofs -dsimp)
          exact hR y q ⟨yy.1, lq, n0, n4, yy.2, h.pb⟩
def outF (a b c d : List Int) : List (List Int) := [a, b].filter fun x => !fillB c d x
theorem law_ok {n : Nat} {a b c d x : List Int} (h : GP n a b) (g : GP n c d) (hx : x = a ∨ x = b) : c.length = x.length ∧ d.length = x.length ∧ x.length ≤ 1000 ∧ (∀ y ∈ c, 1 ≤ y ∧ y < 2 ^ 60) ∧ (∀ y ∈ d, 1 ≤ y) ∧ ∀ i, i < x.length → 0 ≤ gi x i ∧ gi x i < 2 ^ 60 ∧ gi x i / gi c i < 999999 := by
  have lx : x.length = n := by rcases hx with e | e <;> simp only [e, h.la, h.lb]
  have bx : ∀ y ∈ x, 1 ≤ y ∧ y ≤ 1000 := by rcases hx with e | e <;> rw [e] <;> first | exact h.pa | exact h.pb
  have lc := g.la
  have ld := g.lb
  have n4 := h.n4
  refine ⟨by omega, by omega, by omega, fun y hy => by have := g.pa y hy; omega, fun y hy => (g.pb y hy).1, fun i hi => ?_⟩
  have b1 := bx _ (gi_mem hi)
  have b2 := g.pa _ (gi_mem (show i < c.length by omega))
  refine ⟨by omega, by omega, ?_⟩
  have := Int.ediv_le_self (gi c i) (show 0 ≤ gi x i by omega)
  omega
theorem out_cases {n : Nat} {a b c d : List Int} (h : GP n a b) : (outF a b c d = [] ∧ withinB a b c d = true ∧ escF a b c d = .none) ∨ ∃ x xs, outF a b c d = x :: xs ∧ withinB a b c d = false ∧ escF a b c d = tI x ∧ xs.length ≤ 1 ∧ ∀ y ∈ x :: xs, y.length ≤ 4 ∧ ∀ z ∈ y, 0 ≤ z ∧ z < 2 ^ 20 := by
  have n4 := h.n4
  have ga : a.length ≤ 4 ∧ ∀ z ∈ a, 0 ≤ z ∧ z < 2 ^ 20 := ⟨by have := h.la; omega, fun z hz => by have := h.pa z hz; omega⟩
  have gb : b.length ≤ 4 ∧ ∀ z ∈ b, 0 ≤ z ∧ z < 2 ^ 20 := ⟨by have := h.lb; omega, fun z hz => by have := h.pb z hz; omega⟩
  cases e1 : fillB c d a <;> cases e2 : fillB c d b
  · refine .inr ⟨a, [b], by simp [outF, e1, e2], by simp [withinB, e1, e2], by simp [escF, e1], by simp, fun y hy => ?_⟩
    simp only [List.mem_cons, List.not_mem_nil, or_false] at hy
    rcases hy with rfl | rfl <;> assumption
  · refine .inr ⟨a, [], by simp [outF, e1, e2], by simp [withinB, e1, e2], by simp [escF, e1], by simp, fun y hy => ?_⟩
    simp only [List.mem_cons, List.not_mem_nil, or_false] at hy
    rw [hy]; exact ga
  · refine .inr ⟨b, [], by simp [outF, e1, e2], by simp [withinB, e1, e2], by simp [escF, e1, e2], by simp, fun y hy => ?_⟩
    simp only [List.mem_cons, List.not_mem_nil, or_false] at hy
    rw [hy]; exact gb
  · exact .inl ⟨by simp [outF, e1, e2], by simp [withinB, e1, e2], by simp [escF, e1, e2]⟩
theorem within_self {a b : List Int} : withinB a b a b = true := by
  unfold withinB
  rw [Bool.and_eq_true, fillB_iff, fillB_iff]
  exact ⟨.inl fun i _ => ⟨1, by omega⟩, .inr (.inl fun i _ => ⟨1, by omega⟩)⟩
theorem esc_self {a b : List Int} : escF a b a b = .none := by
  have := within_self (a := a) (b := b)
  unfold withinB at this
  rw [Bool.and_eq_true] at this
  simp [escF, this.1, this.2]
theorem shp_side {c : List Int} (h : c.length ≤ 4 ∧ ∀ z ∈ c, 0 ≤ z ∧ z < 2 ^ 20) : Shp false 1 (4 * (20 + 9 + 2) + 4) (tI c) := Shp.tuple (shp_ints (k := 20) h.1 fun x hx => log_le (by have := h.2 x hx; omega) (by have := h.2 x hx; omega))
theorem shp_outs {xs : List (List Int)} (h : ∀ y ∈ xs, y.length ≤ 4 ∧ ∀ z ∈ y, 0 ≤ z ∧ z < 2 ^ 20) (hl : xs.length ≤ 2) : Shp false 2 1000 (.list (xs.map tI)) := (Shp.list (ShpL.map (n := 1) (fun c hc => shp_side (h c hc)) hl)).mono (by decide) (by decide)
theorem eqvLL (xs ys : List PyData) : (PyData.list xs).eqv (.list ys) = PyData.eqvAll xs ys := by simp [PyData.eqv]
theorem rd_law_s4 {E : DEnds} {c0 c2 c5 c6 c8 c9 c10 c11 c13 : Cell} {a1 a2 a3 : Addr} {n m : Nat} {p q u v : List Int} (ne : n ≠ m) (h : GP n p q) (g : GP m u v)
    (k : ∀ c6 c8 c9 c10 c11 c12 c13, E.nx [c0, .dk a1 a2 a3, c2, .d (.int (n : Int)), .d (prD p q), c5, c6, .em, c8, c9, c10, c11, c12, c13]) :
    w_law_s4 E [c0, .dk a1 a2 a3, c2, .d (.int (n : Int)), .d (prD p q), c5, c6, .em, c8, c9, c10, c11, .d (prD u v), c13] := by
  (try simp -implicitDefEqProofs -dsimp)
  refine askL_of ⟨rfl, fun K hK => ⟨rfl, ?_⟩, ?_⟩
  · (try simp -implicitDefEqProofs -dsimp)
    refine ask_of (sp := sp_within_k25) ⟨p, q, u, v, n, m, rfl, h, g, ?_⟩
    rw [if_neg ne]
    unfold unlikeD at hK ⊢
    (try simp -implicitDefEqProofs -dsimp)
    exact hK
  (try simp -implicitDefEqProofs -dsimp)
  intro fa
  refine ⟨⟨fa, _, rfl⟩, askL_of ⟨rfl, fun K hK => ⟨rfl, ?_⟩, ?_⟩⟩
  · (try simp -implicitDefEqProofs -dsimp)
    refine ask_of (sp := sp_escape_k25) ⟨u, v, p, q, m, n, rfl, g, h, ?_⟩
    rw [if_neg (Ne.symm ne)]
    unfold unlikeD at hK ⊢
    (try simp -implicitDefEqProofs -dsimp)
    exact hK
  (try simp -implicitDefEqProofs -dsimp)
  refine ⟨⟨fa, _, rfl⟩, askL_of ⟨rfl, fun K hK => ⟨rfl, ?_⟩, ?_⟩⟩
  · (try simp -implicitDefEqProofs -dsimp)
    refine ask_of (sp := sp_alike_k25) ⟨p, q, u, v, n, m, rfl, h, g, ?_⟩
    rw [if_neg ne]
    unfold unlikeD at hK ⊢
    (try simp -implicitDefEqProofs -dsimp)
    exact hK
  (try simp -implicitDefEqProofs -dsimp)
  refine ⟨by decide, ?_⟩
  rw [if_pos (by decide)]
  exact k _ _ _ _ _ _ _
theorem rd_law_t1 {E : DEnds} {c0 c2 c5 c6 c8 c9 c10 c11 c12 c13 : Cell} {a1 a2 a3 : Addr} {n : Nat} {p q : List Int} (h : GP n p q)
    (k : ∀ c6 c8 c9 c10 c11 c12 c13, E.nx [c0, .dk a1 a2 a3, c2, .d (.int (n : Int)), .d (prD p q), c5, c6, .em, c8, c9, c10, c11, c12, c13]) :
    w_law_t1 E [c0, .dk a1 a2 a3, c2, .d (.int (n : Int)), .d (prD p q), c5, c6, .em, c8, c9, c10, c11, c12, c13] := by
  simp -implicitDefEqProofs -dsimp [w_law_t1]
  have n4 := h.n4
  have n0 := h.n0
  have lp := h.la
  have lq := h.lb
  by_cases e : (n : Int) < 4
  · rw [if_pos e]
    refine com_map [p, q] (fun x => tI x) rfl (fun x => some (tI (x ++ [1]))) (fun x hx acc K hK => ?_) ?_
    · have e1 : PyData.tuple (lI x ++ [.int 1]) = tI (x ++ [1]) := by simp [tI, lI]
      (try simp -implicitDefEqProofs -dsimp)
      rw [e1]
      have lx : x.length ≤ 4 := by simp only [List.mem_cons, List.not_mem_nil, or_false] at hx; rcases hx with rfl | rfl <;> omega
      refine ⟨by omega, ?_⟩
      simpa using hK
    · simp -implicitDefEqProofs -dsimp [-w_law_s4_ap]
      exact rd_law_s4 (m := n + 1) (by omega) h ⟨by simp; omega, by simp; omega, by omega, by omega, fun x hx => by
        rcases List.mem_append.mp hx with q | q
        · exact h.pa x q
        · simp only [List.mem_cons, List.not_mem_nil, or_false] at q; omega, fun x hx => by
        rcases List.mem_append.mp hx with q | q
        · exact h.pb x q
        · simp only [List.mem_cons, List.not_mem_nil, or_false] at q; omega⟩ k
  · rw [if_neg e]
    refine com_map [p, q] (fun x => tI x) rfl (fun x => some (tI (x.drop 1))) (fun x hx acc K hK => ?_) ?_
    · have e1 : PyData.tuple (DL.cutD (lI x) (some 1) none) = tI (x.drop 1) := by
        rw [show (some 1 : Option Int) = some ((1 : Nat) : Int) from rfl, cutD_drop, tI, lI, lI, List.map_drop]
      (try simp -implicitDefEqProofs -dsimp)
      rw [e1]
      simpa using hK
    · simp -implicitDefEqProofs -dsimp [-w_law_s4_ap]
      exact rd_law_s4 (m := n - 1) (by omega) h ⟨by simp; omega, by simp; omega, by omega, by omega, fun x hx => h.pa x (List.mem_of_mem_drop (i := 1) (by simpa using hx)), fun x hx => h.pb x (List.mem_of_mem_drop (i := 1) (by simpa using hx))⟩ k
theorem rd_law_s6 {E : DEnds} {c0 c2 c8 c9 c11 c12 c13 : Cell} {a1 a2 a3 : Addr} {n : Nat} {p q u v : List Int} (h : GP n p q) (g : GP n u v)
    (k : ∀ c6 c8 c9 c10 c11 c12 c13, E.nx [c0, .dk a1 a2 a3, c2, .d (.int (n : Int)), .d (prD p q), .d (prD u v), c6, .em, c8, c9, c10, c11, c12, c13]) :
    w_law_s6 E [c0, .dk a1 a2 a3, c2, .d (.int (n : Int)), .d (prD p q), .d (prD u v), .d (.list [.list ((outF p q u v).map tI), .list ((outF u v p q).map tI)]), .em, c8, c9, .d (.list [.bool (withinB p q u v), .bool (withinB u v p q), escF p q u v, escF u v p q, .bool (withinB p q u v && withinB u v p q)]), c11, c12, c13] := by
  rcases out_cases (c := u) (d := v) h with ⟨o1, w1, e1⟩ | ⟨x, xs, o1, w1, e1, l1, g1⟩ <;> rcases out_cases (c := p) (d := q) g with ⟨o2, w2, e2⟩ | ⟨y, ys, o2, w2, e2, l2, g2⟩ <;> rw [o1, w1, e1, o2, w2, e2]
  · have s0 : SeqAt.shaped (.list [.list [], .list []]) = true := (Shp.list (n := 2) (.cons (Shp.list .nil) (.cons (Shp.list .nil) .nil))).shaped
    have sh : Shp false 2 100 (.list [.bool true, .bool true, .none, .none, .bool true]) := (Shp.list (n := 1) (.cons .bool (.cons .bool (.cons .none (.cons .none (.cons .bool .nil)))))).mono (by decide) (by decide)
    simp -implicitDefEqProofs -dsimp [shaped_nil, eqvLL, PyData.eqvAll, s0]
    refine sh.repr (sh.repr ?_)
    (try simp -implicitDefEqProofs -dsimp)
    refine ask_of (sp := sp_alike_k25) ⟨p, q, p, q, n, n, rfl, h, h, ?_⟩
    rw [if_pos rfl, within_self]
    (try simp -implicitDefEqProofs -dsimp)
    refine ask_of (sp := sp_escape_k25) ⟨p, q, p, q, n, n, rfl, h, h, ?_⟩
    rw [if_pos rfl, esc_self]
    (try simp -implicitDefEqProofs -dsimp)
    exact rd_law_t1 h k
  · have sB := shp_outs g2 (by simp; omega)
    have s2 := sB.shaped
    have s0 : SeqAt.shaped (.list [.list [], .list []]) = true := (Shp.list (n := 2) (.cons (Shp.list .nil) (.cons (Shp.list .nil) .nil))).shaped
    have s3 : SeqAt.shaped (.list [.list [], .list ((y :: ys).map tI)]) = true := (Shp.list (n := 2) (.cons (Shp.list .nil) (.cons sB .nil))).shaped
    rw [List.map_cons] at s2 s3
    have sh : Shp false 2 1000 (.list [.bool true, .bool false, .none, tI y, .bool false]) := (Shp.list (n := 1) (.cons .bool (.cons .bool (.cons .none (.cons (shp_side (g2 y (by simp))) (.cons .bool .nil)))))).mono (by decide) (by decide)
    simp -implicitDefEqProofs -dsimp [shaped_nil, eqvLL, PyData.eqvAll, s0, s2, s3]
    refine ⟨by omega, ?_⟩
    refine sh.repr (sh.repr ?_)
    (try simp -implicitDefEqProofs -dsimp)
    refine ask_of (sp := sp_alike_k25) ⟨p, q, p, q, n, n, rfl, h, h, ?_⟩
    rw [if_pos rfl, within_self]
    (try simp -implicitDefEqProofs -dsimp)
    refine ask_of (sp := sp_escape_k25) ⟨p, q, p, q, n, n, rfl, h, h, ?_⟩
    rw [if_pos rfl, esc_self]
    (try simp -implicitDefEqProofs -dsimp)
    exact rd_law_t1 h k
  · have sA := shp_outs g1 (by simp; omega)
    have s2 := sA.shaped
    have s0 : SeqAt.shaped (.list [.list [], .list []]) = true := (Shp.list (n := 2) (.cons (Shp.list .nil) (.cons (Shp.list .nil) .nil))).shaped
    have s3 : SeqAt.shaped (.list [.list ((x :: xs).map tI), .list []]) = true := (Shp.list (n := 2) (.cons sA (.cons (Shp.list .nil) .nil))).shaped
    rw [List.map_cons] at s2 s3
    have sh : Shp false 2 1000 (.list [.bool false, .bool true, tI x, .none, .bool false]) := (Shp.list (n := 1) (.cons .bool (.cons .bool (.cons (shp_side (g1 x (by simp))) (.cons .none (.cons .bool .nil)))))).mono (by decide) (by decide)
    simp -implicitDefEqProofs -dsimp [shaped_nil, eqvLL, PyData.eqvAll, s0, s2, s3]
    refine ⟨by omega, ?_⟩
    refine sh.repr (sh.repr ?_)
    (try simp -implicitDefEqProofs -dsimp)
    refine ask_of (sp := sp_alike_k25) ⟨p, q, p, q, n, n, rfl, h, h, ?_⟩
    rw [if_pos rfl, within_self]
    (try simp -implicitDefEqProofs -dsimp)
    refine ask_of (sp := sp_escape_k25) ⟨p, q, p, q, n, n, rfl, h, h, ?_⟩
    rw [if_pos rfl, esc_self]
    (try simp -implicitDefEqProofs -dsimp)
    exact rd_law_t1 h k
  · have sA := shp_outs g1 (by simp; omega)
    have sB := shp_outs g2 (by simp; omega)
    have s1 := sA.shaped
    have s2 := sB.shaped
    have s0 : SeqAt.shaped (.list [.list [], .list []]) = true := (Shp.list (n := 2) (.cons (Shp.list .nil) (.cons (Shp.list .nil) .nil))).shaped
    have s3 : SeqAt.shaped (.list [.list ((x :: xs).map tI), .list ((y :: ys).map tI)]) = true := (Shp.list (n := 2) (.cons sA (.cons sB .nil))).shaped
    rw [List.map_cons] at s1 s2
    rw [List.map_cons, List.map_cons] at s3
    have sh : Shp false 2 1000 (.list [.bool false, .bool false, tI x, tI y, .bool false]) := (Shp.list (n := 1) (.cons .bool (.cons .bool (.cons (shp_side (g1 x (by simp))) (.cons (shp_side (g2 y (by simp))) (.cons .bool .nil)))))).mono (by decide) (by decide)
    simp -implicitDefEqProofs -dsimp [shaped_nil, eqvLL, PyData.eqvAll, s0, s1, s2, s3]
    refine ⟨by omega, by omega, ?_⟩
    refine sh.repr (sh.repr ?_)
    (try simp -implicitDefEqProofs -dsimp)
    refine ask_of (sp := sp_alike_k25) ⟨p, q, p, q, n, n, rfl, h, h, ?_⟩
    rw [if_pos rfl, within_self]
    (try simp -implicitDefEqProofs -dsimp)
    refine ask_of (sp := sp_escape_k25) ⟨p, q, p, q, n, n, rfl, h, h, ?_⟩
    rw [if_pos rfl, esc_self]
    (try simp -implicitDefEqProofs -dsimp)
    exact rd_law_t1 h k
theorem rd_law_s7 {E : DEnds} {c0 c2 c8 c9 c10 c11 c12 c13 : Cell} {a1 a2 a3 : Addr} {n : Nat} {p q u v : List Int} (h : GP n p q) (g : GP n u v)
    (k : ∀ c6 c8 c9 c10 c11 c12 c13, E.nx [c0, .dk a1 a2 a3, c2, .d (.int (n : Int)), .d (prD p q), .d (prD u v), c6, .em, c8, c9, c10, c11, c12, c13]) :
    w_law_s7 E [c0, .dk a1 a2 a3, c2, .d (.int (n : Int)), .d (prD p q), .d (prD u v), .d (.list [.list ((outF p q u v).map tI), .list ((outF u v p q).map tI)]), .em, c8, c9, c10, c11, c12, c13] := by
  (try simp -implicitDefEqProofs -dsimp)
  refine ask_of (sp := sp_within_k25) ⟨p, q, u, v, n, n, rfl, h, g, ?_⟩
  rw [if_pos rfl]
  (try simp -implicitDefEqProofs -dsimp)
  refine ask_of (sp := sp_within_k25) ⟨u, v, p, q, n, n, rfl, g, h, ?_⟩
  rw [if_pos rfl]
  (try simp -implicitDefEqProofs -dsimp)
  refine ask_of (sp := sp_escape_k25) ⟨p, q, u, v, n, n, rfl, h, g, ?_⟩
  rw [if_pos rfl]
  refine onX_is esc_nx ?_
  (try simp -implicitDefEqProofs -dsimp)
  refine ask_of (sp := sp_escape_k25) ⟨u, v, p, q, n, n, rfl, g, h, ?_⟩
  rw [if_pos rfl]
  refine onX_is esc_nx ?_
  (try simp -implicitDefEqProofs -dsimp)
  refine ask_of (sp := sp_alike_k25) ⟨p, q, u, v, n, n, rfl, h, g, ?_⟩
  rw [if_pos rfl]
  simp -implicitDefEqProofs -dsimp [-w_law_s6_ap]
  exact rd_law_s6 h g k
theorem rd_law_s8 {E : DEnds} {c0 c2 c6 c8 c9 c10 c11 c12 c13 : Cell} {a1 a2 a3 : Addr} {n : Nat} {p q u v : List Int} (h : GP n p q) (g : GP n u v)
    (k : ∀ c6 c8 c9 c10 c11 c12 c13, E.nx [c0, .dk a1 a2 a3, c2, .d (.int (n : Int)), .d (prD p q), .d (prD u v), c6, .em, c8, c9, c10, c11, c12, c13]) :
    w_law_s8 E [c0, .dk a1 a2 a3, c2, .d (.int (n : Int)), .d (prD p q), .d (prD u v), c6, .em, c8, c9, c10, c11, c12, c13] := by
  simp -implicitDefEqProofs -dsimp [-w_law_s7_ap]
  refine com_map [((p, q), (u, v)), ((u, v), (p, q))] (fun r => .tuple [prD r.1.1 r.1.2, prD r.2.1 r.2.2]) rfl (fun r => some (.list ((outF r.1.1 r.1.2 r.2.1 r.2.2).map tI))) ?_ ?_
  · rintro ⟨⟨a, b⟩, c, d⟩ hm acc K hK
    have hh : GP n a b ∧ GP n c d := by
      simp only [List.mem_cons, List.not_mem_nil, or_false, Prod.mk.injEq] at hm
      rcases hm with ⟨⟨rfl, rfl⟩, rfl, rfl⟩ | ⟨⟨rfl, rfl⟩, rfl, rfl⟩
      · exact ⟨h, g⟩
      · exact ⟨g, h⟩
    obtain ⟨h', g'⟩ := hh
    (try simp -implicitDefEqProofs -dsimp)
    refine com_map [a, b] (fun x => tI x) rfl (fun x => if fillB c d x = true then none else some (tI x)) (fun x hx acc2 K2 hK2 => ?_) ?_
    · obtain ⟨w1, w2, w3, w4, w5, w6⟩ := law_ok h' g' (x := x) (by simpa using hx)
      (try simp -implicitDefEqProofs -dsimp)
      refine ask_of (sp := sp_Lis_filled) ⟨c, d, x, rfl, w1, w2, w3, w4, w5, w6, ?_⟩
      (try simp -implicitDefEqProofs -dsimp)
      cases e : fillB c d x
      · (try simp -implicitDefEqProofs -dsimp)
        simpa [e] using hK2
      · (try simp -implicitDefEqProofs -dsimp)
        simpa [e] using hK2
    · have e : List.filterMap (fun x => if fillB c d x = true then none else some (tI x)) [a, b] = (outF a b c d).map tI := by
        unfold outF
        cases e1 : fillB c d a <;> cases e2 : fillB c d b <;> simp [e1, e2]
      rw [e]
      (try simp -implicitDefEqProofs -dsimp)
      simpa using hK
  · simp -implicitDefEqProofs -dsimp [-w_law_s7_ap]
    exact rd_law_s7 h g k
theorem rd_law : ∀ cs R, sp_law cs R → w_law (endsOf cs R) (start0 14 cs) := by
  rintro _ R ⟨a, ns, rfl, hR⟩
  simp -implicitDefEqProofs -dsimp [w_law]
  refine ask_deck fun a1 a2 a3 => ?_
  (try simp -implicitDefEqProofs -dsimp)
  refine for_stay (fun δ => ∃ c2 c3 c4 c5 c6 c8 c9 c10 c11 c12 c13, δ = [.scr a ns, .dk a1 a2 a3, c2, c3, c4, c5, c6, .em, c8, c9, c10, c11, c12, c13]) ⟨_, _, _, _, _, _, _, _, _, _, _, rfl⟩ ?_ ?_
  · rintro δ ⟨c2, c3, c4, c5, c6, c8, c9, c10, c11, c12, c13, rfl⟩
    (try simp -implicitDefEqProofs -dsimp)
    exact hR _
  · rintro x hx δ ⟨c2, c3, c4, c5, c6, c8, c9, c10, c11, c12, c13, rfl⟩ K B T hK
    simp -implicitDefEqProofs -dsimp [w_law_2]
    refine ask_draw (by omega) (by omega) fun ax d0 d1 => ?_
    (try simp -implicitDefEqProofs -dsimp)
    refine ask_of ⟨_, _, _, 1 + ax, 9, rfl, by omega, by omega, by omega, by omega, fun p q lp lq ip iq => ?_⟩
    obtain ⟨n, en⟩ : ∃ n : Nat, 1 + ax = (n : Int) := ⟨(1 + ax).toNat, by omega⟩
    have e9 : ∀ {l : List Int}, TW.In 9 l → ∀ x ∈ l, 1 ≤ x ∧ x ≤ 1000 := fun il x hx => by have := il x hx; omega
    have h : GP n p q := ⟨by omega, by omega, by omega, by omega, e9 ip, e9 iq⟩
    (try simp -implicitDefEqProofs -dsimp)
    refine ask_of (sp := sp_Lnear) ⟨_, _, _, p, q, n, rfl, h, ip, iq, fun x1 x2 g1 => ?_⟩
    (try simp -implicitDefEqProofs -dsimp)
    refine ask_of (sp := sp_Lpair) ⟨_, _, _, 1 + ax, 5, rfl, by omega, by omega, by omega, by omega, fun y1 y2 l1 l2 i1 i2 => ?_⟩
    have g2 : GP n y1 y2 := ⟨by omega, by omega, by omega, by omega, fun x hx => by have := i1 x hx; omega, fun x hx => by have := i2 x hx; omega⟩
    have go : ∀ (u v : List Int), GP n u v → w_law_s8 { nx := K, rt := T, bk := B, ct := K } [.scr a ns, .dk a1 a2 a3, .d x, .d (.int (1 + ax)), .d (prD p q), .d (prD u v), c6, .em, c8, c9, c10, c11, c12, c13] := by
      intro u v g
      rw [en]
      exact rd_law_s8 h g fun _ _ _ _ _ _ _ => hK _ ⟨_, _, _, _, _, _, _, _, _, _, _, rfl⟩
    (try simp -implicitDefEqProofs -dsimp)
    refine ask_of ⟨_, _, _, _, _, rfl, rfl, by simp, by simp, fun y hy => ?_⟩
    simp only [List.mem_cons, List.not_mem_nil, or_false] at hy
    rcases hy with rfl | rfl | rfl
    · simp -implicitDefEqProofs -dsimp [-w_law_s8_ap]
      exact go _ _ g1
    · simp -implicitDefEqProofs -dsimp [-w_law_s8_ap]
      exact go _ _ g2
    · simp -implicitDefEqProofs -dsimp [-w_law_s8_ap]
      exact go _ _ h
end K25
set_option Elab.async false
set_option linter.all false
set_option maxRecDepth 100000
set_option maxHeartbeats 4000000
namespace K25
open PySem PySem.Spec PyProof.Rows L2 DL TW
variable [DL.Tb]
theorem sc_common : FnScope ["one", "other"] ["one", "other"] (defScope s_common) := ⟨rfl, rfl, rfl, by decide +kernel, rfl, by decide +kernel, by decide +kernel⟩
theorem sc_inverse : FnScope ["one", "other", "left", "right", "now", "later", "times"] ["one", "other"] (defScope s_inverse) := ⟨rfl, rfl, rfl, by decide +kernel, rfl, by decide +kernel, by decide +kernel⟩
theorem sc_least_times : FnScope ["one", "other", "side", "part"] ["one", "other", "side"] (defScope s_least_times) := ⟨rfl, rfl, rfl, by decide +kernel, rfl, by decide +kernel, by decide +kernel⟩
theorem sc_rests : FnScope ["brick", "box", "axis", "side"] ["brick", "box"] (defScope s_rests) := ⟨rfl, rfl, rfl, by decide +kernel, rfl, by decide +kernel, by decide +kernel⟩
theorem sc_bar_along : FnScope ["pair", "box", "axis", "one", "other", "side", "times", "more"] ["pair", "box", "axis"] (defScope s_bar_along) := ⟨rfl, rfl, rfl, by decide +kernel, rfl, by decide +kernel, by decide +kernel⟩
theorem sc_crossing : FnScope ["pair", "box", "found", "i", "j"] ["pair", "box"] (defScope s_crossing) := ⟨rfl, rfl, rfl, by decide +kernel, rfl, by decide +kernel, by decide +kernel⟩
theorem sc_paper : FnScope ["pair", "box", "kind", "brick", "crossed", "axis", "bar"] ["pair", "box"] (defScope s_paper) := ⟨rfl, rfl, rfl, by decide +kernel, rfl, by decide +kernel, by decide +kernel⟩
theorem sc_is_filled : FnScope ["pair", "box"] ["pair", "box"] (defScope s_is_filled) := ⟨rfl, rfl, rfl, by decide +kernel, rfl, by decide +kernel, by decide +kernel⟩
theorem sc_escape : FnScope ["one", "other", "brick"] ["one", "other"] (defScope s_escape) := ⟨rfl, rfl, rfl, by decide +kernel, rfl, by decide +kernel, by decide +kernel⟩
theorem sc_within : FnScope ["one", "other"] ["one", "other"] (defScope s_within) := ⟨rfl, rfl, rfl, by decide +kernel, rfl, by decide +kernel, by decide +kernel⟩
theorem sc_alike : FnScope ["one", "other"] ["one", "other"] (defScope s_alike) := ⟨rfl, rfl, rfl, by decide +kernel, rfl, by decide +kernel, by decide +kernel⟩
theorem sc_Ldeck : FnScope ["_law_script", "_law_cells", "_law_cell"] ["_law_script"] (defScope s_Ldeck) := ⟨rfl, rfl, rfl, by decide +kernel, rfl, by decide +kernel, by decide +kernel⟩
theorem sc_Ldraw : FnScope ["_law_deck_here", "_law_many", "_law_rest", "_law_cell", "_law_mixed"] ["_law_deck_here", "_law_many"] (defScope s_Ldraw) := ⟨rfl, rfl, rfl, by decide +kernel, rfl, by decide +kernel, by decide +kernel⟩
theorem sc_Lone : FnScope ["_law_deck_here", "_law_items"] ["_law_deck_here", "_law_items"] (defScope s_Lone) := ⟨rfl, rfl, rfl, by decide +kernel, rfl, by decide +kernel, by decide +kernel⟩
theorem sc_Lsides : FnScope ["_law_deck_here", "_law_axes", "_law_most", "_law_axis"] ["_law_deck_here", "_law_axes", "_law_most"] (defScope s_Lsides) := ⟨rfl, rfl, rfl, by decide +kernel, rfl, by decide +kernel, by decide +kernel⟩
theorem sc_Lpair : FnScope ["_law_deck_here", "_law_axes", "_law_most", "_law_one_here", "_law_other", "_law_at"] ["_law_deck_here", "_law_axes", "_law_most"] (defScope s_Lpair) := ⟨rfl, rfl, rfl, by decide +kernel, rfl, by decide +kernel, by decide +kernel⟩
theorem sc_Lis_sum : FnScope ["_law_side", "_law_one_here", "_law_other", "_law_k"] ["_law_side", "_law_one_here", "_law_other"] (defScope s_Lis_sum) := ⟨rfl, rfl, rfl, by decide +kernel, rfl, by decide +kernel, by decide +kernel⟩
theorem sc_Lrests : FnScope ["_law_brick", "_law_box", "_law_axis"] ["_law_brick", "_law_box"] (defScope s_Lrests) := ⟨rfl, rfl, rfl, by decide +kernel, rfl, by decide +kernel, by decide +kernel⟩
theorem sc_Lis_filled : FnScope ["_law_pair_here", "_law_box", "_law_one_here", "_law_other"] ["_law_pair_here", "_law_box"] (defScope s_Lis_filled) := ⟨rfl, rfl, rfl, by decide +kernel, rfl, by decide +kernel, by decide +kernel⟩
theorem sc_Ldivisor : FnScope ["_law_one_here", "_law_other"] ["_law_one_here", "_law_other"] (defScope s_Ldivisor) := ⟨rfl, rfl, rfl, by decide +kernel, rfl, by decide +kernel, by decide +kernel⟩
theorem sc_Llcm : FnScope ["_law_one_here", "_law_other"] ["_law_one_here", "_law_other"] (defScope s_Llcm) := ⟨rfl, rfl, rfl, by decide +kernel, rfl, by decide +kernel, by decide +kernel⟩
theorem sc_Lcut_box : FnScope ["_law_deck_here", "_law_pair_here", "_law_many", "_law_axis", "_law_found", "_law_k"] ["_law_deck_here", "_law_pair_here", "_law_many"] (defScope s_Lcut_box) := ⟨rfl, rfl, rfl, by decide +kernel, rfl, by decide +kernel, by decide +kernel⟩
theorem sc_Lplain_box : FnScope ["_law_deck_here", "_law_pair_here", "_law_many", "_law_brick", "_law_side"] ["_law_deck_here", "_law_pair_here", "_law_many"] (defScope s_Lplain_box) := ⟨rfl, rfl, rfl, by decide +kernel, rfl, by decide +kernel, by decide +kernel⟩
theorem sc_Lwith : FnScope ["_law_sides_here", "_law_axis", "_law_side"] ["_law_sides_here", "_law_axis", "_law_side"] (defScope s_Lwith) := ⟨rfl, rfl, rfl, by decide +kernel, rfl, by decide +kernel, by decide +kernel⟩
theorem sc_Lnear : FnScope ["_law_deck_here", "_law_pair_here", "_law_way", "_law_axes", "_law_axis"] ["_law_deck_here", "_law_pair_here"] (defScope s_Lnear) := ⟨rfl, rfl, rfl, by decide +kernel, rfl, by decide +kernel, by decide +kernel⟩
theorem sc_Lis_refused : FnScope ["_law_call", "_law_found", "error"] ["_law_call"] (defScope s_Lis_refused) := ⟨rfl, rfl, rfl, by decide +kernel, rfl, by decide +kernel, by decide +kernel⟩
theorem sc_law : FnScope ["_law_script", "_law_deck_here", "_law_turn", "_law_axes", "_law_one_here", "_law_other", "_law_out", "_law_brick", "_law_own", "_law_far", "_law_told", "_law_due", "_law_wide", "_law_calls"] ["_law_script"] (defScope s_law) := ⟨rfl, rfl, rfl, by decide +kernel, rfl, by decide +kernel, by decide +kernel⟩
variable {P : Program} {w : World} {K : W.Frag} {mg : Str → Option Value} {base : Heap}
structure Gkb (K : W.Frag) (mg : Str → Option Value) (n : Str) (f : Addr) (fd : FuncData) (ps : List Str) : Prop where
  g : mg n = some (.ref f)
  k : W.keepIn K (.ref f) = true
  b : Binds K fd ps []
set_option maxHeartbeats 0 in
theorem ok_common {f : Addr} {fd : FuncData} (F : Fun K "common" "common" s_common f fd)  : FnG P w K mg base CX0 1 f fd ["one", "other"] (liftSp K sp_common) := by
  have nd := sc_common.nd
  refine okD (wb := w_common) F sc_common ln_common (fun cdv A outer s H E hr => ?_) rd_common
  exact (jss_cons (js_while PassesOwn.never (jt_cmp d_gt (jv 1) je_int) (jss_one (jpar (i := 0) (j := 1) rfl nd rfl rfl (by decide) (jms_cons (jm_e (jv 1)) (jms_cons (jm_e (je_op d_mod (jv 0) (jv 1))) jms_nil)))))
    (jss_one (js_ret (jv 0))))
set_option maxHeartbeats 0 in
theorem ok_inverse {f : Addr} {fd : FuncData} (F : Fun K "inverse" "inverse" s_inverse f fd)  : FnG P w K mg base CX0 1 f fd ["one", "other"] (liftSp K sp_inverse) := by
  have nd := sc_inverse.nd
  refine okD (wb := w_inverse) F sc_inverse ln_inverse (fun cdv A outer s H E hr => ?_) rd_inverse
  exact (jss_cons (js_asgG (je_tup (ja_cons (je_op d_mod (jv 0) (jv 1)) (ja_cons (jv 1) (ja_cons je_int (ja_cons je_int ja_nil))))) (jg_tup rfl (jgs_cons (jgn 2 nd) (jgs_cons (jgn 3 nd) (jgs_cons (jgn 4 nd) (jgs_cons (jgn 5 nd) jgs_nil)))) (gs_lenN (gs_lenN (gs_lenN (gs_lenN gs_len0))))))
    (jss_cons (js_while PassesOwn.never (jt_cmp d_gt (jv 2) je_int) (jss_cons (jset 6 nd (jm_e (je_op d_div (jv 3) (jv 2))))
    (jss_cons (jpar (i := 2) (j := 3) rfl nd rfl rfl (by decide) (jms_cons (jm_e (je_op d_subB (jv 3) (je_op d_mulT (jv 6) (jv 2)))) (jms_cons (jm_e (jv 2)) jms_nil)))
    (jss_one (jpar (i := 4) (j := 5) rfl nd rfl rfl (by decide) (jms_cons (jm_e (je_op d_subB (jv 5) (je_op d_mulT (jv 6) (jv 4)))) (jms_cons (jm_e (jv 4)) jms_nil)))))))
    (jss_one (js_ret (je_op d_mod (jv 5) (jv 1))))))
set_option maxHeartbeats 0 in
theorem ok_least_times {f : Addr} {fd : FuncData} (F : Fun K "least_times" "least_times" s_least_times f fd) {f_inverse : Addr} {fd_inverse : FuncData} (F_inverse : FnG P w K mg base CX0 1 f_inverse fd_inverse ["one", "other"] (liftSp K sp_inverse)) (q_inverse : Gkb K mg "inverse" f_inverse fd_inverse ["one", "other"]) {f_common : Addr} {fd_common : FuncData} (F_common : FnG P w K mg base CX0 1 f_common fd_common ["one", "other"] (liftSp K sp_common)) (q_common : Gkb K mg "common" f_common fd_common ["one", "other"]) : FnG P w K mg base CX0 2 f fd ["one", "other", "side"] (liftSp K sp_least_times) := by
  have nd := sc_least_times.nd
  replace F_inverse := F_inverse.mono (show 1 ≤ 1 by decide)
  replace F_common := F_common.mono (show 1 ≤ 1 by decide)
  refine okD (wb := w_least_times) F sc_least_times ln_least_times (fun cdv A outer s H E hr => ?_) rd_least_times
  exact (jss_cons (jset 3 nd (jm_e (je_call (m := []) F_common hr rfl q_common.g q_common.k q_common.b (ja_cons (jv 0) (ja_cons (jv 1) ja_nil)))))
    (jss_cons (js_if (jt_cmp (d_ne hr.u64) (je_op d_mod (jv 2) (jv 3)) je_int) (jss_one (js_ret je_non)) jss_nil)
    (jss_one (js_ret (je_op d_mod (je_op d_mulT (je_op d_div (jv 2) (jv 3)) (je_call (m := []) F_inverse hr rfl q_inverse.g q_inverse.k q_inverse.b (ja_cons (je_op d_div (jv 0) (jv 3)) (ja_cons (je_op d_div (jv 1) (jv 3)) ja_nil)))) (je_op d_div (jv 1) (jv 3)))))))
set_option maxHeartbeats 0 in
theorem ok_rests {f : Addr} {fd : FuncData} (F : Fun K "rests" "rests" s_rests f fd) (z_enumerate : mg "enumerate" = none) : FnG P w K mg base CX0 1 f fd ["brick", "box"] (liftSp K sp_rests) := by
  have nd := sc_rests.nd
  refine okD (wb := w_rests) F sc_rests ln_rests (fun cdv A outer s H E hr => ?_) rd_rests
  exact (jss_one (js_ret (je_ofL (jl_comp (own := [("axis", 2), ("side", 3)]) rfl nd (ji_enum rfl z_enumerate (ja_cons (jv 1) ja_nil)) (blkOk_by (by kernel_rfl)) (by decide) (fun _ _ _ _ _ => (jg_tup rfl (jgs_cons (jgn 2 nd) (jgs_cons (jgn 3 nd) jgs_nil)) (gs_lenN (gs_lenN gs_len0)))) (fun _ _ _ _ _ => (jts_one (jt_cmp (d_ne hr.u64) (je_op d_mod (jv 3) (je_ix d_ix (jv 0) (jv 2) (fun _ _ => rfl))) je_int))) (fun _ _ _ _ _ => (jv 2))))))
set_option maxHeartbeats 0 in
theorem ok_bar_along {f : Addr} {fd : FuncData} (F : Fun K "bar_along" "bar_along" s_bar_along f fd) {t_GAP : Tok} (c_GAP : mg "GAP" = some (.str "gap" t_GAP)) {t_STEP : Tok} (c_STEP : mg "STEP" = some (.str "step" t_STEP)) {f_least_times : Addr} {fd_least_times : FuncData} (F_least_times : FnG P w K mg base CX0 2 f_least_times fd_least_times ["one", "other", "side"] (liftSp K sp_least_times)) (q_least_times : Gkb K mg "least_times" f_least_times fd_least_times ["one", "other", "side"]) : FnG P w K mg base CX0 3 f fd ["pair", "box", "axis"] (liftSp K sp_bar_along) := by
  have nd := sc_bar_along.nd
  replace F_least_times := F_least_times.mono (show 2 ≤ 2 by decide)
  refine okD (wb := w_bar_along) F sc_bar_along ln_bar_along (fun cdv A outer s H E hr => ?_) rd_bar_along
  exact (jss_cons (jpar3 (i := 3) (j := 4) (l := 5) rfl nd rfl rfl rfl (by decide) (by decide) (by decide) (jms_cons (jm_e (je_ix d_ix (je_ix d_ix (jv 0) je_int (fun _ _ => rfl)) (jv 2) (fun _ _ => rfl))) (jms_cons (jm_e (je_ix d_ix (je_ix d_ix (jv 0) je_int (fun _ _ => rfl)) (jv 2) (fun _ _ => rfl))) (jms_cons (jm_e (je_ix d_ix (jv 1) (jv 2) (fun _ _ => rfl))) jms_nil))))
    (jss_cons (jset 6 nd (jm_e (je_call (m := []) F_least_times hr rfl q_least_times.g q_least_times.k q_least_times.b (ja_cons (jv 3) (ja_cons (jv 4) (ja_cons (jv 5) ja_nil))))))
    (jss_cons (js_if (jt_cmp d_is (jv 6) je_non) (jss_one (js_ret (je_tup (ja_cons (je_glob (v := .str "step") rfl c_STEP ⟨_, rfl⟩ (fun _ _ => .str _)) (ja_cons (jv 2) ja_nil))))) jss_nil)
    (jss_cons (jset 7 nd (jm_e (je_op d_subB (je_op d_mulT (jv 3) (jv 6)) (jv 5))))
    (jss_one (js_ret (je_ifE (jt_cmp d_gt (jv 7) je_int) (je_tup (ja_cons (je_glob (v := .str "gap") rfl c_GAP ⟨_, rfl⟩ (fun _ _ => .str _)) (ja_cons (jv 2) (ja_cons (jv 6) (ja_cons (je_op d_div (jv 7) (jv 4)) ja_nil))))) je_non)))))))
set_option maxHeartbeats 0 in
theorem ok_crossing {f : Addr} {fd : FuncData} (F : Fun K "crossing" "crossing" s_crossing f fd) {t_SIDES : Tok} (c_SIDES : mg "SIDES" = some (.str "sides" t_SIDES)) {f_rests : Addr} {fd_rests : FuncData} (F_rests : FnG P w K mg base CX0 1 f_rests fd_rests ["brick", "box"] (liftSp K sp_rests)) (q_rests : Gkb K mg "rests" f_rests fd_rests ["brick", "box"]) : FnG P w K mg base CX0 2 f fd ["pair", "box"] (liftSp K sp_crossing) := by
  have nd := sc_crossing.nd
  replace F_rests := F_rests.mono (show 1 ≤ 1 by decide)
  refine okD (wb := w_crossing) F sc_crossing ln_crossing (fun cdv A outer s H E hr => ?_) rd_crossing
  exact (jss_cons (jset 2 nd (jm_l (jl_lst ja_nil)))
    (jss_cons (js_for PassesOwn.never rfl (ji_seq (je_call (m := []) F_rests hr rfl q_rests.g q_rests.k q_rests.b (ja_cons (je_ix d_ix (jv 0) je_int (fun _ _ => rfl)) (ja_cons (jv 1) ja_nil)))) (jgn 3 nd) (jss_one (js_extend (jpv 2) (je_ofL (jl_comp (own := [("j", 4)]) rfl nd (ji_seq (je_call (m := []) F_rests hr rfl q_rests.g q_rests.k q_rests.b (ja_cons (je_ix d_ix (jv 0) je_int (fun _ _ => rfl)) (ja_cons (jv 1) ja_nil)))) (blkOk_by (by kernel_rfl)) (by decide) (fun _ _ _ _ _ => (jgn 4 nd)) (fun _ _ _ _ _ => (jts_one (jt_cmp (d_ne hr.u64) (jv 3) (jv 4)))) (fun _ _ _ _ _ => (je_tup (ja_cons (je_glob (v := .str "sides") rfl c_SIDES ⟨_, rfl⟩ (fun _ _ => .str _)) (ja_cons (jv 3) (ja_cons (jv 4) ja_nil))))))) rfl rfl (pe_bm PySem.F.plainAttrs_list PySem.F.slot_list_extend PySem.F.type_list_extend mt_extend (jpv 2) (pa_cons (je_ofL (jl_comp (own := [("j", 4)]) rfl nd (ji_seq (je_call (m := []) F_rests hr rfl q_rests.g q_rests.k q_rests.b (ja_cons (je_ix d_ix (jv 0) je_int (fun _ _ => rfl)) (ja_cons (jv 1) ja_nil)))) (blkOk_by (by kernel_rfl)) (by decide) (fun _ _ _ _ _ => (jgn 4 nd)) (fun _ _ _ _ _ => (jts_one (jt_cmp (d_ne hr.u64) (jv 3) (jv 4)))) (fun _ _ _ _ _ => (je_tup (ja_cons (je_glob (v := .str "sides") rfl c_SIDES ⟨_, rfl⟩ (fun _ _ => .str _)) (ja_cons (jv 3) (ja_cons (jv 4) ja_nil))))))) pa_nil)))))
    (jss_one (js_ret (jv 2)))))
set_option maxHeartbeats 0 in
theorem ok_paper {f : Addr} {fd : FuncData} (F : Fun K "paper" "paper" s_paper f fd) (z_enumerate : mg "enumerate" = none) {t_CUT : Tok} (c_CUT : mg "CUT" = some (.str "cut" t_CUT)) {f_least_times : Addr} {fd_least_times : FuncData} (F_least_times : FnG P w K mg base CX0 2 f_least_times fd_least_times ["one", "other", "side"] (liftSp K sp_least_times)) (q_least_times : Gkb K mg "least_times" f_least_times fd_least_times ["one", "other", "side"]) {f_bar_along : Addr} {fd_bar_along : FuncData} (F_bar_along : FnG P w K mg base CX0 3 f_bar_along fd_bar_along ["pair", "box", "axis"] (liftSp K sp_bar_along)) (q_bar_along : Gkb K mg "bar_along" f_bar_along fd_bar_along ["pair", "box", "axis"]) {f_rests : Addr} {fd_rests : FuncData} (F_rests : FnG P w K mg base CX0 1 f_rests fd_rests ["brick", "box"] (liftSp K sp_rests)) (q_rests : Gkb K mg "rests" f_rests fd_rests ["brick", "box"]) {f_crossing : Addr} {fd_crossing : FuncData} (F_crossing : FnG P w K mg base CX0 2 f_crossing fd_crossing ["pair", "box"] (liftSp K sp_crossing)) (q_crossing : Gkb K mg "crossing" f_crossing fd_crossing ["pair", "box"]) : FnG P w K mg base CX0 4 f fd ["pair", "box"] (liftSp K sp_paper) := by
  have nd := sc_paper.nd
  replace F_least_times := F_least_times.mono (show 2 ≤ 3 by decide)
  replace F_bar_along := F_bar_along.mono (show 3 ≤ 3 by decide)
  replace F_rests := F_rests.mono (show 1 ≤ 3 by decide)
  replace F_crossing := F_crossing.mono (show 2 ≤ 3 by decide)
  refine okD (wb := w_paper) F sc_paper ln_paper (fun cdv A outer s H E hr => ?_) rd_paper
  exact (jss_cons (js_for PassesOwn.never rfl (ji_enum rfl z_enumerate (ja_cons (jv 0) ja_nil)) (jg_tup rfl (jgs_cons (jgn 2 nd) (jgs_cons (jgn 3 nd) jgs_nil)) (gs_lenN (gs_lenN gs_len0))) (jss_one (js_if (jt_cmp (d_eq hr.u64) (je_call (m := []) F_rests hr rfl q_rests.g q_rests.k q_rests.b (ja_cons (jv 3) (ja_cons (jv 1) ja_nil))) (je_ofL (jl_lst ja_nil))) (jss_one (js_ret (je_tup (ja_cons (je_glob (v := .str "cut") rfl c_CUT ⟨_, rfl⟩ (fun _ _ => .str _)) (ja_cons (jv 2) (ja_cons je_int (ja_cons (je_ix d_ix (jv 1) je_int (fun _ _ => rfl)) ja_nil))))))) jss_nil)))
    (jss_cons (jset 4 nd (jm_e (je_call (m := []) F_crossing hr rfl q_crossing.g q_crossing.k q_crossing.b (ja_cons (jv 0) (ja_cons (jv 1) ja_nil)))))
    (jss_cons (js_if (jt_cmp (d_ne hr.u64) (jv 4) (je_ofL (jl_lst ja_nil))) (jss_one (js_ret (je_ix d_ix (jv 4) je_int (fun _ _ => rfl)))) jss_nil)
    (jss_cons (jset 5 nd (jm_e (je_ix d_ix (je_call (m := []) F_rests hr rfl q_rests.g q_rests.k q_rests.b (ja_cons (je_ix d_ix (jv 0) je_int (fun _ _ => rfl)) (ja_cons (jv 1) ja_nil))) je_int (fun _ _ => rfl))))
    (jss_cons (jset 6 nd (jm_e (je_call (m := []) F_bar_along hr rfl q_bar_along.g q_bar_along.k q_bar_along.b (ja_cons (jv 0) (ja_cons (jv 1) (ja_cons (jv 5) ja_nil))))))
    (jss_cons (js_if (jt_cmp d_isnot (jv 6) je_non) (jss_one (js_ret (jv 6))) jss_nil)
    (jss_one (js_ret (je_tup (ja_cons (je_glob (v := .str "cut") rfl c_CUT ⟨_, rfl⟩ (fun _ _ => .str _)) (ja_cons je_int (ja_cons (jv 5) (ja_cons (je_op d_mulT (je_ix d_ix (je_ix d_ix (jv 0) je_int (fun _ _ => rfl)) (jv 5) (fun _ _ => rfl)) (je_call (m := []) F_least_times hr rfl q_least_times.g q_least_times.k q_least_times.b (ja_cons (je_ix d_ix (je_ix d_ix (jv 0) je_int (fun _ _ => rfl)) (jv 5) (fun _ _ => rfl)) (ja_cons (je_ix d_ix (je_ix d_ix (jv 0) je_int (fun _ _ => rfl)) (jv 5) (fun _ _ => rfl)) (ja_cons (je_ix d_ix (jv 1) (jv 5) (fun _ _ => rfl)) ja_nil))))) ja_nil)))))))))))))
set_option maxHeartbeats 0 in
theorem ok_is_filled {f : Addr} {fd : FuncData} (F : Fun K "is_filled" "is_filled" s_is_filled f fd) {t_CUT : Tok} (c_CUT : mg "CUT" = some (.str "cut" t_CUT)) {f_paper : Addr} {fd_paper : FuncData} (F_paper : FnG P w K mg base CX0 4 f_paper fd_paper ["pair", "box"] (liftSp K sp_paper)) (q_paper : Gkb K mg "paper" f_paper fd_paper ["pair", "box"]) : FnG P w K mg base CX0 5 f fd ["pair", "box"] (liftSp K sp_is_filled) := by
  have nd := sc_is_filled.nd
  replace F_paper := F_paper.mono (show 4 ≤ 4 by decide)
  refine okD (wb := w_is_filled) F sc_is_filled ln_is_filled (fun cdv A outer s H E hr => ?_) rd_is_filled
  exact (jss_one (js_ret (je_cmp (d_eq hr.u64) (je_ix d_ix (je_call (m := []) F_paper hr rfl q_paper.g q_paper.k q_paper.b (ja_cons (jv 0) (ja_cons (jv 1) ja_nil))) je_int (fun _ _ => rfl)) (je_glob (v := .str "cut") rfl c_CUT ⟨_, rfl⟩ (fun _ _ => .str _)))))
set_option maxHeartbeats 0 in
theorem ok_escape {f : Addr} {fd : FuncData} (F : Fun K "escape" "escape" s_escape f fd) {TL : XNames} (z_len : mg "len" = none) {f_is_filled : Addr} {fd_is_filled : FuncData} (F_is_filled : FnG P w K mg base CX0 5 f_is_filled fd_is_filled ["pair", "box"] (liftSp K sp_is_filled)) (q_is_filled : Gkb K mg "is_filled" f_is_filled fd_is_filled ["pair", "box"]) (x_UnlikeAxes : XC0 K mg TL "UnlikeAxes") : FnG P w K mg base (L2N.CX P w) 6 f fd ["one", "other"] (liftSpX K TL sp_escape_k25) := by
  have nd := sc_escape.nd
  replace F_is_filled := F_is_filled.mono (show 5 ≤ 5 by decide)
  refine okX (TL := TL) (wb := w_escape_k25) F sc_escape ln_escape_k25 (fun cdv A outer s H E hr => ?_) rd_escape_k25
  exact (jssx_cons (jsx_if (jt_cmp (d_ne hr.u64) (je_fn c_len rfl z_len boot_len (ja_cons (je_ix d_ix (jv 0) je_int (fun _ _ => rfl)) ja_nil)) (je_fn c_len rfl z_len boot_len (ja_cons (je_ix d_ix (jv 1) je_int (fun _ _ => rfl)) ja_nil))) (jssx_one (jsx_raise rfl (jmk0x x_UnlikeAxes rfl))) (jssx_of jss_nil))
    (jssx_cons (jsx_of (js_for PassesOwn.leaving rfl (ji_seq (jv 0)) (jgn 2 nd) (jss_one (js_if (jt_not (jt_val (je_call (m := []) F_is_filled hr rfl q_is_filled.g q_is_filled.k q_is_filled.b (ja_cons (jv 1) (ja_cons (jv 2) ja_nil))))) (jss_one (js_ret (jv 2))) jss_nil))))
    (jssx_one (jsx_of (js_ret je_non)))))
set_option maxHeartbeats 0 in
theorem ok_within {f : Addr} {fd : FuncData} (F : Fun K "within" "within" s_within f fd) {TL : XNames} {f_escape : Addr} {fd_escape : FuncData} (F_escape : FnG P w K mg base (L2N.CX P w) 6 f_escape fd_escape ["one", "other"] (liftSpX K TL sp_escape_k25)) (q_escape : Gkb K mg "escape" f_escape fd_escape ["one", "other"]) : FnG P w K mg base (L2N.CX P w) 7 f fd ["one", "other"] (liftSpX K TL sp_within_k25) := by
  have nd := sc_within.nd
  replace F_escape := F_escape.mono (show 6 ≤ 6 by decide)
  refine okX (TL := TL) (wb := w_within_k25) F sc_within ln_within_k25 (fun cdv A outer s H E hr => ?_) rd_within_k25
  exact (jssx_one (jsx_ret (jex_cmp d_is (jex_call (m := []) F_escape hr rfl q_escape.g q_escape.k q_escape.b (jxa (ja_cons (jv 0) (ja_cons (jv 1) ja_nil)))) je_non)))
set_option maxHeartbeats 0 in
theorem ok_alike {f : Addr} {fd : FuncData} (F : Fun K "alike" "alike" s_alike f fd) {TL : XNames} {f_within : Addr} {fd_within : FuncData} (F_within : FnG P w K mg base (L2N.CX P w) 7 f_within fd_within ["one", "other"] (liftSpX K TL sp_within_k25)) (q_within : Gkb K mg "within" f_within fd_within ["one", "other"]) : FnG P w K mg base (L2N.CX P w) 8 f fd ["one", "other"] (liftSpX K TL sp_alike_k25) := by
  have nd := sc_alike.nd
  replace F_within := F_within.mono (show 7 ≤ 7 by decide)
  refine okX (TL := TL) (wb := w_alike_k25) F sc_alike ln_alike_k25 (fun cdv A outer s H E hr => ?_) rd_alike_k25
  exact (jssx_one (jsx_ret (jex_and (jex_call (m := []) F_within hr rfl q_within.g q_within.k q_within.b (jxa (ja_cons (jv 0) (ja_cons (jv 1) ja_nil)))) (jex_call (m := []) F_within hr rfl q_within.g q_within.k q_within.b (jxa (ja_cons (jv 1) (ja_cons (jv 0) ja_nil)))))))
set_option maxHeartbeats 0 in
theorem ok_Ldeck {f : Addr} {fd : FuncData} (F : Fun K "_law_deck" "_law_deck" s_Ldeck f fd) (z_abs : mg "abs" = none) (z_len : mg "len" = none) : FnG P w K mg base CX0 1 f fd ["_law_script"] (liftM K spDeck) := by
  have nd := sc_Ldeck.nd
  refine ok_deck F sc_Ldeck rfl rfl rfl (fun cdv A outer s H E hr => ?_) (fun cdv A outer s H E hr => ?_)
  · exact (js_setCL (i := 1) (own := [("_law_cell", 2)]) rfl nd rfl rfl (sw_true rfl rfl rfl (by decide +kernel)) (ji_seq (je_cut (jpv 0))) (blkOk_by (by kernel_rfl)) (by decide) (fun _ _ _ _ _ => (jgn 2 nd)) (fun _ _ _ _ _ => jts_nil) (fun _ _ _ _ _ => je_fn c_abs rfl z_abs boot_abs (ja_cons (jv 2) ja_nil)))
  · exact (jms_cons (jm_l (jl_comp (own := [("_law_cell", 2)]) rfl nd (ji_seq (jv 1)) (blkOk_by (by kernel_rfl)) (by decide) (fun _ _ _ _ _ => (jgn 2 nd)) (fun _ _ _ _ _ => jts_one (jt_cmp d_ge (jv 2) (je_op d_pow je_int je_int))) (fun _ _ _ _ _ => (jv 2))))
      (jms_cons (jm_l (jl_op d_addL (jv 1) (je_ofL (jl_lst (ja_cons (je_op d_add je_int (je_fn c_len rfl z_len boot_len (ja_cons (jv 1) ja_nil))) ja_nil))))) (jms_cons (jm_e je_int) jms_nil)))
set_option maxHeartbeats 0 in
theorem ok_Ldraw {f : Addr} {fd : FuncData} (F : Fun K "_law_draw" "_law_draw" s_Ldraw f fd) (z_int : mg "int" = none) (z_len : mg "len" = none) : FnG P w K mg base CX0 1 f fd ["_law_deck_here", "_law_many"] (liftSp K spDraw) := by
  have nd := sc_Ldraw.nd
  refine ok_draw F sc_Ldraw rfl rfl fun cdv A outer s H E hr => ?_
  exact (jss_cons (js_if (jt_kne hr.u64 (jpv 0)) (jss_cons (jset 2 nd (jm_e (je_k00 (jpv 0)))) (jss_cons (js_put00 (jpv 0) (je_op d_div (jv 2) (jv 1)))
      (jss_cons (js_if (jt_cmp (d_eq hr.u64) (je_k00 (jpv 0)) je_int) (jss_one (js_pop0 (jpv 0) rfl (pe_bm PySem.F.plainAttrs_list PySem.F.slot_list_pop PySem.F.type_list_pop mt_popAt (pe_ix ix_list (jpv 0) pe_int (fun _ _ => rfl)) (pa_cons pe_int pa_nil)))) jss_nil)
      (jss_one (js_ret (je_op d_mod (je_ty c_int rfl z_int boot_int (ja_cons (jv 2) ja_nil)) (jv 1))))))) jss_nil)
    (jss_cons (js_put2 (jpv 0) (je_op d_add (je_k2 (jpv 0)) je_int))
    (jss_cons (jset 3 nd (jm_e (je_k1 (jpv 0) (je_op d_mod (je_ty c_int rfl z_int boot_int (ja_cons (je_k2 (jpv 0)) ja_nil)) (je_klen rfl z_len boot_len (jpv 0))) (fun _ _ => rfl))))
    (jss_cons (jset 4 nd (jm_e (je_op d_mod (je_ty c_int rfl z_int boot_int (ja_cons (je_op d_add (je_op d_mod (je_ty c_int rfl z_int boot_int (ja_cons (jv 3) ja_nil)) je_int) (je_op d_mul je_int (je_k2 (jpv 0)))) ja_nil)) je_int)))
    (jss_cons (jset 4 nd (jm_e (je_op d_mod (je_ty c_int rfl z_int boot_int (ja_cons (je_op d_add (je_op d_mul (jv 4) (jv 4)) (je_op d_mul je_int (je_k2 (jpv 0)))) ja_nil)) je_int)))
    (jss_one (js_ret (je_op d_mod (je_op d_div (je_op d_mod (je_ty c_int rfl z_int boot_int (ja_cons (je_op d_mul (jv 4) (jv 4)) ja_nil)) je_int) je_int) (jv 1)))))))))
set_option maxHeartbeats 0 in
theorem ok_Lone {f : Addr} {fd : FuncData} (F : Fun K "_law_one" "_law_one" s_Lone f fd) (z_len : mg "len" = none) {f_Ldraw : Addr} {fd_Ldraw : FuncData} (F_Ldraw : FnG P w K mg base CX0 1 f_Ldraw fd_Ldraw ["_law_deck_here", "_law_many"] (liftSp K sp_Ldraw)) (q_Ldraw : Gkb K mg "_law_draw" f_Ldraw fd_Ldraw ["_law_deck_here", "_law_many"]) : FnG P w K mg base CX0 2 f fd ["_law_deck_here", "_law_items"] (liftSp K sp_Lone) := by
  have nd := sc_Lone.nd
  replace F_Ldraw := F_Ldraw.mono (show 1 ≤ 1 by decide)
  refine okD (wb := w_Lone) F sc_Lone ln_Lone (fun cdv A outer s H E hr => ?_) rd_Lone
  exact (jss_one (js_ret (je_ix d_ix (jv 1) (je_call (m := [true, false]) F_Ldraw hr rfl q_Ldraw.g q_Ldraw.k q_Ldraw.b (ja_cons (jv 0) (ja_cons (je_fn c_len rfl z_len boot_len (ja_cons (jv 1) ja_nil)) ja_nil))) (fun _ _ => rfl))))
set_option maxHeartbeats 0 in
theorem ok_Lsides {f : Addr} {fd : FuncData} (F : Fun K "_law_sides" "_law_sides" s_Lsides f fd) (z_range : mg "range" = none) (z_tuple : mg "tuple" = none) {f_Ldraw : Addr} {fd_Ldraw : FuncData} (F_Ldraw : FnG P w K mg base CX0 1 f_Ldraw fd_Ldraw ["_law_deck_here", "_law_many"] (liftSp K sp_Ldraw)) (q_Ldraw : Gkb K mg "_law_draw" f_Ldraw fd_Ldraw ["_law_deck_here", "_law_many"]) : FnG P w K mg base CX0 2 f fd ["_law_deck_here", "_law_axes", "_law_most"] (liftSp K sp_Lsides) := by
  have nd := sc_Lsides.nd
  replace F_Ldraw := F_Ldraw.mono (show 1 ≤ 1 by decide)
  refine okD (wb := w_Lsides) F sc_Lsides ln_Lsides (fun cdv A outer s H E hr => ?_) rd_Lsides
  exact (jss_one (js_ret (je_ty c_tup rfl z_tuple boot_tuple (ja_cons (je_ofL (jl_comp (own := [("_law_axis", 3)]) rfl nd (ji_range1 rfl z_range (ja_cons (jv 1) ja_nil)) (blkOk_by (by kernel_rfl)) (by decide) (fun _ _ _ _ _ => (jgn 3 nd)) (fun _ _ _ _ _ => jts_nil) (fun _ _ _ _ _ => (je_op d_addB je_int (je_call (m := [true, false]) F_Ldraw hr rfl q_Ldraw.g q_Ldraw.k q_Ldraw.b (ja_cons (jv 0) (ja_cons (jv 2) ja_nil))))))) ja_nil))))
set_option maxHeartbeats 0 in
theorem ok_Lpair {f : Addr} {fd : FuncData} (F : Fun K "_law_pair" "_law_pair" s_Lpair f fd) {f_Ldraw : Addr} {fd_Ldraw : FuncData} (F_Ldraw : FnG P w K mg base CX0 1 f_Ldraw fd_Ldraw ["_law_deck_here", "_law_many"] (liftSp K sp_Ldraw)) (q_Ldraw : Gkb K mg "_law_draw" f_Ldraw fd_Ldraw ["_law_deck_here", "_law_many"]) {f_Lsides : Addr} {fd_Lsides : FuncData} (F_Lsides : FnG P w K mg base CX0 2 f_Lsides fd_Lsides ["_law_deck_here", "_law_axes", "_law_most"] (liftSp K sp_Lsides)) (q_Lsides : Gkb K mg "_law_sides" f_Lsides fd_Lsides ["_law_deck_here", "_law_axes", "_law_most"]) : FnG P w K mg base CX0 3 f fd ["_law_deck_here", "_law_axes", "_law_most"] (liftSp K sp_Lpair) := by
  have nd := sc_Lpair.nd
  replace F_Ldraw := F_Ldraw.mono (show 1 ≤ 2 by decide)
  replace F_Lsides := F_Lsides.mono (show 2 ≤ 2 by decide)
  refine okD (wb := w_Lpair) F sc_Lpair ln_Lpair (fun cdv A outer s H E hr => ?_) rd_Lpair
  exact (jss_cons (jpar (i := 3) (j := 4) rfl nd rfl rfl (by decide) (jms_cons (jm_e (je_call (m := [true, false, false]) F_Lsides hr rfl q_Lsides.g q_Lsides.k q_Lsides.b (ja_cons (jv 0) (ja_cons (jv 1) (ja_cons (jv 2) ja_nil))))) (jms_cons (jm_e (je_call (m := [true, false, false]) F_Lsides hr rfl q_Lsides.g q_Lsides.k q_Lsides.b (ja_cons (jv 0) (ja_cons (jv 1) (ja_cons (jv 2) ja_nil))))) jms_nil)))
    (jss_cons (js_if (jt_cmp (d_eq hr.u64) (je_call (m := [true, false]) F_Ldraw hr rfl q_Ldraw.g q_Ldraw.k q_Ldraw.b (ja_cons (jv 0) (ja_cons je_int ja_nil))) je_int) (jss_cons (jset 5 nd (jm_e (je_call (m := [true, false]) F_Ldraw hr rfl q_Ldraw.g q_Ldraw.k q_Ldraw.b (ja_cons (jv 0) (ja_cons (jv 1) ja_nil)))))
    (jss_one (jset 4 nd (jm_e (je_op d_addB (je_op d_addB (je_sl d_sl (jv 3) jo_none (jo_some (jv 5))) (je_tup (ja_cons (je_op d_addB je_int (je_call (m := [true, false]) F_Ldraw hr rfl q_Ldraw.g q_Ldraw.k q_Ldraw.b (ja_cons (jv 0) (ja_cons (jv 2) ja_nil)))) ja_nil))) (je_sl d_sl (jv 3) (jo_some (je_op d_addB (jv 5) je_int)) jo_none)))))) jss_nil)
    (jss_one (js_ret (je_tup (ja_cons (jv 3) (ja_cons (jv 4) ja_nil)))))))
set_option maxHeartbeats 0 in
theorem ok_Lis_sum {f : Addr} {fd : FuncData} (F : Fun K "_law_is_sum" "_law_is_sum" s_Lis_sum f fd) (z_range : mg "range" = none) (z_int : mg "int" = none) : FnG P w K mg base CX0 1 f fd ["_law_side", "_law_one_here", "_law_other"] (liftSp K sp_Lis_sum) := by
  have nd := sc_Lis_sum.nd
  refine okD (wb := w_Lis_sum) F sc_Lis_sum ln_Lis_sum (fun cdv A outer s H E hr => ?_) rd_Lis_sum
  exact (jss_one (js_ret (je_cmp (d_ne hr.u64) (je_ofL (jl_comp (own := [("_law_k", 3)]) rfl nd (ji_range1 rfl z_range (ja_cons (je_op d_addB (je_op d_div (jv 0) (jv 1)) je_int) ja_nil)) (blkOk_by (by kernel_rfl)) (by decide) (fun _ _ _ _ _ => (jgn 3 nd)) (fun _ _ _ _ _ => (jts_one (jt_cmp (d_eq hr.u64) (je_op d_mod (je_ty c_int rfl z_int boot_int (ja_cons (je_op d_subB (jv 0) (je_op d_mulT (jv 3) (jv 1))) ja_nil)) (jv 2)) je_int))) (fun _ _ _ _ _ => (jv 3)))) (je_ofL (jl_lst ja_nil)))))
set_option maxHeartbeats 0 in
theorem ok_Lrests {f : Addr} {fd : FuncData} (F : Fun K "_law_rests" "_law_rests" s_Lrests f fd) (z_len : mg "len" = none) (z_range : mg "range" = none) (z_int : mg "int" = none) : FnG P w K mg base CX0 1 f fd ["_law_brick", "_law_box"] (liftSp K sp_Lrests) := by
  have nd := sc_Lrests.nd
  refine okD (wb := w_Lrests) F sc_Lrests ln_Lrests (fun cdv A outer s H E hr => ?_) rd_Lrests
  exact (jss_one (js_ret (je_ofL (jl_comp (own := [("_law_axis", 2)]) rfl nd (ji_range1 rfl z_range (ja_cons (je_fn c_len rfl z_len boot_len (ja_cons (jv 1) ja_nil)) ja_nil)) (blkOk_by (by kernel_rfl)) (by decide) (fun _ _ _ _ _ => (jgn 2 nd)) (fun _ _ _ _ _ => (jts_one (jt_cmp (d_ne hr.u64) (je_op d_mod (je_ty c_int rfl z_int boot_int (ja_cons (je_ix d_ix (jv 1) (jv 2) (fun _ _ => rfl)) ja_nil)) (je_ix d_ix (jv 0) (jv 2) (fun _ _ => rfl))) je_int))) (fun _ _ _ _ _ => (jv 2))))))
set_option maxHeartbeats 0 in
theorem ok_Lis_filled {f : Addr} {fd : FuncData} (F : Fun K "_law_is_filled" "_law_is_filled" s_Lis_filled f fd) (z_len : mg "len" = none) {f_Lis_sum : Addr} {fd_Lis_sum : FuncData} (F_Lis_sum : FnG P w K mg base CX0 1 f_Lis_sum fd_Lis_sum ["_law_side", "_law_one_here", "_law_other"] (liftSp K sp_Lis_sum)) (q_Lis_sum : Gkb K mg "_law_is_sum" f_Lis_sum fd_Lis_sum ["_law_side", "_law_one_here", "_law_other"]) {f_Lrests : Addr} {fd_Lrests : FuncData} (F_Lrests : FnG P w K mg base CX0 1 f_Lrests fd_Lrests ["_law_brick", "_law_box"] (liftSp K sp_Lrests)) (q_Lrests : Gkb K mg "_law_rests" f_Lrests fd_Lrests ["_law_brick", "_law_box"]) : FnG P w K mg base CX0 2 f fd ["_law_pair_here", "_law_box"] (liftSp K sp_Lis_filled) := by
  have nd := sc_Lis_filled.nd
  replace F_Lis_sum := F_Lis_sum.mono (show 1 ≤ 1 by decide)
  replace F_Lrests := F_Lrests.mono (show 1 ≤ 1 by decide)
  refine okD (wb := w_Lis_filled) F sc_Lis_filled ln_Lis_filled (fun cdv A outer s H E hr => ?_) rd_Lis_filled
  exact (jss_cons (jpar (i := 2) (j := 3) rfl nd rfl rfl (by decide) (jms_cons (jm_e (je_call (m := []) F_Lrests hr rfl q_Lrests.g q_Lrests.k q_Lrests.b (ja_cons (je_ix d_ix (jv 0) je_int (fun _ _ => rfl)) (ja_cons (jv 1) ja_nil)))) (jms_cons (jm_e (je_call (m := []) F_Lrests hr rfl q_Lrests.g q_Lrests.k q_Lrests.b (ja_cons (je_ix d_ix (jv 0) je_int (fun _ _ => rfl)) (ja_cons (jv 1) ja_nil)))) jms_nil)))
    (jss_cons (js_if (jt_w (jw_or (jt_cmp (d_eq hr.u64) (jv 2) (je_ofL (jl_lst ja_nil))) (jw_or1 (jt_cmp (d_eq hr.u64) (jv 3) (je_ofL (jl_lst ja_nil)))))) (jss_one (js_ret je_bl)) jss_nil)
    (jss_cons (js_if (jt_w (jw_or (jt_cmp d_gt (je_fn c_len rfl z_len boot_len (ja_cons (jv 2) ja_nil)) je_int) (jw_or1 (jt_cmp (d_ne hr.u64) (jv 2) (jv 3))))) (jss_one (js_ret je_bl)) jss_nil)
    (jss_one (js_ret (je_call (m := []) F_Lis_sum hr rfl q_Lis_sum.g q_Lis_sum.k q_Lis_sum.b (ja_cons (je_ix d_ix (jv 1) (je_ix d_ix (jv 2) je_int (fun _ _ => rfl)) (fun _ _ => rfl)) (ja_cons (je_ix d_ix (je_ix d_ix (jv 0) je_int (fun _ _ => rfl)) (je_ix d_ix (jv 2) je_int (fun _ _ => rfl)) (fun _ _ => rfl)) (ja_cons (je_ix d_ix (je_ix d_ix (jv 0) je_int (fun _ _ => rfl)) (je_ix d_ix (jv 2) je_int (fun _ _ => rfl)) (fun _ _ => rfl)) ja_nil)))))))))
set_option maxHeartbeats 0 in
theorem ok_Ldivisor {f : Addr} {fd : FuncData} (F : Fun K "_law_divisor" "_law_divisor" s_Ldivisor f fd)  : FnG P w K mg base CX0 1 f fd ["_law_one_here", "_law_other"] (liftSp K sp_common) := by
  have nd := sc_Ldivisor.nd
  refine okD (wb := w_common) F sc_Ldivisor ln_common (fun cdv A outer s H E hr => ?_) rd_common
  exact (jss_cons (js_while PassesOwn.never (jt_cmp d_gt (jv 1) je_int) (jss_one (jpar (i := 0) (j := 1) rfl nd rfl rfl (by decide) (jms_cons (jm_e (jv 1)) (jms_cons (jm_e (je_op d_mod (jv 0) (jv 1))) jms_nil)))))
    (jss_one (js_ret (jv 0))))
set_option maxHeartbeats 0 in
theorem ok_Llcm {f : Addr} {fd : FuncData} (F : Fun K "_law_lcm" "_law_lcm" s_Llcm f fd) {f_Ldivisor : Addr} {fd_Ldivisor : FuncData} (F_Ldivisor : FnG P w K mg base CX0 1 f_Ldivisor fd_Ldivisor ["_law_one_here", "_law_other"] (liftSp K sp_common)) (q_Ldivisor : Gkb K mg "_law_divisor" f_Ldivisor fd_Ldivisor ["_law_one_here", "_law_other"]) : FnG P w K mg base CX0 2 f fd ["_law_one_here", "_law_other"] (liftSp K sp_Llcm) := by
  have nd := sc_Llcm.nd
  replace F_Ldivisor := F_Ldivisor.mono (show 1 ≤ 1 by decide)
  refine okD (wb := w_Llcm) F sc_Llcm ln_Llcm (fun cdv A outer s H E hr => ?_) rd_Llcm
  exact (jss_one (js_ret (je_op d_div (je_op d_mulT (jv 0) (jv 1)) (je_call (m := []) F_Ldivisor hr rfl q_Ldivisor.g q_Ldivisor.k q_Ldivisor.b (ja_cons (jv 0) (ja_cons (jv 1) ja_nil))))))
set_option maxHeartbeats 0 in
theorem ok_Lcut_box {f : Addr} {fd : FuncData} (F : Fun K "_law_cut_box" "_law_cut_box" s_Lcut_box f fd) (z_tuple : mg "tuple" = none) (z_len : mg "len" = none) (z_range : mg "range" = none) {f_Ldraw : Addr} {fd_Ldraw : FuncData} (F_Ldraw : FnG P w K mg base CX0 1 f_Ldraw fd_Ldraw ["_law_deck_here", "_law_many"] (liftSp K sp_Ldraw)) (q_Ldraw : Gkb K mg "_law_draw" f_Ldraw fd_Ldraw ["_law_deck_here", "_law_many"]) {f_Llcm : Addr} {fd_Llcm : FuncData} (F_Llcm : FnG P w K mg base CX0 2 f_Llcm fd_Llcm ["_law_one_here", "_law_other"] (liftSp K sp_Llcm)) (q_Llcm : Gkb K mg "_law_lcm" f_Llcm fd_Llcm ["_law_one_here", "_law_other"]) : FnG P w K mg base CX0 3 f fd ["_law_deck_here", "_law_pair_here", "_law_many"] (liftSp K sp_Lcut_box) := by
  have nd := sc_Lcut_box.nd
  replace F_Ldraw := F_Ldraw.mono (show 1 ≤ 2 by decide)
  replace F_Llcm := F_Llcm.mono (show 2 ≤ 2 by decide)
  refine okD (wb := w_Lcut_box) F sc_Lcut_box ln_Lcut_box (fun cdv A outer s H E hr => ?_) rd_Lcut_box
  exact (jss_cons (jpar (i := 3) (j := 4) rfl nd rfl rfl (by decide) (jms_cons (jm_e (je_call (m := [true, false]) F_Ldraw hr rfl q_Ldraw.g q_Ldraw.k q_Ldraw.b (ja_cons (jv 0) (ja_cons (je_fn c_len rfl z_len boot_len (ja_cons (je_ix d_ix (jv 1) je_int (fun _ _ => rfl)) ja_nil)) ja_nil)))) (jms_cons (jm_l (jl_lst ja_nil)) jms_nil)))
    (jss_cons (js_for PassesOwn.never rfl (ji_range1 rfl z_range (ja_cons (je_fn c_len rfl z_len boot_len (ja_cons (je_ix d_ix (jv 1) je_int (fun _ _ => rfl)) ja_nil)) ja_nil)) (jgn 5 nd) (jss_one (js_append (jpv 4) (je_call (m := []) F_Llcm hr rfl q_Llcm.g q_Llcm.k q_Llcm.b (ja_cons (je_ix d_ix (je_ix d_ix (jv 1) je_int (fun _ _ => rfl)) (jv 5) (fun _ _ => rfl)) (ja_cons (je_ix d_ix (je_ix d_ix (jv 1) je_int (fun _ _ => rfl)) (jv 5) (fun _ _ => rfl)) ja_nil))) rfl rfl (pe_bm PySem.F.plainAttrs_list PySem.F.slot_list_append PySem.F.type_list_append mt_append (jpv 4) (pa_cons (je_call (m := []) F_Llcm hr rfl q_Llcm.g q_Llcm.k q_Llcm.b (ja_cons (je_ix d_ix (je_ix d_ix (jv 1) je_int (fun _ _ => rfl)) (jv 5) (fun _ _ => rfl)) (ja_cons (je_ix d_ix (je_ix d_ix (jv 1) je_int (fun _ _ => rfl)) (jv 5) (fun _ _ => rfl)) ja_nil))) pa_nil)))))
    (jss_cons (js_put (jv 3) (je_op d_addB (je_op d_mulT (je_ix d_ix (je_ix d_ix (jv 1) je_int (fun _ _ => rfl)) (jv 3) (fun _ _ => rfl)) (je_call (m := [true, false]) F_Ldraw hr rfl q_Ldraw.g q_Ldraw.k q_Ldraw.b (ja_cons (jv 0) (ja_cons (jv 2) ja_nil)))) (je_op d_mulT (je_ix d_ix (je_ix d_ix (jv 1) je_int (fun _ _ => rfl)) (jv 3) (fun _ _ => rfl)) (je_op d_addB je_int (je_call (m := [true, false]) F_Ldraw hr rfl q_Ldraw.g q_Ldraw.k q_Ldraw.b (ja_cons (jv 0) (ja_cons (jv 2) ja_nil)))))) (ps_asg (je_op d_addB (je_op d_mulT (je_ix d_ix (je_ix d_ix (jv 1) je_int (fun _ _ => rfl)) (jv 3) (fun _ _ => rfl)) (je_call (m := [true, false]) F_Ldraw hr rfl q_Ldraw.g q_Ldraw.k q_Ldraw.b (ja_cons (jv 0) (ja_cons (jv 2) ja_nil)))) (je_op d_mulT (je_ix d_ix (je_ix d_ix (jv 1) je_int (fun _ _ => rfl)) (jv 3) (fun _ _ => rfl)) (je_op d_addB je_int (je_call (m := [true, false]) F_Ldraw hr rfl q_Ldraw.g q_Ldraw.k q_Ldraw.b (ja_cons (jv 0) (ja_cons (jv 2) ja_nil)))))) (pg_sub (jpv 4) (jv 3) set_list)))
    (jss_one (js_ret (je_ty c_tup rfl z_tuple boot_tuple (ja_cons (jv 4) ja_nil)))))))
set_option maxHeartbeats 0 in
theorem ok_Lplain_box {f : Addr} {fd : FuncData} (F : Fun K "_law_plain_box" "_law_plain_box" s_Lplain_box f fd) (z_tuple : mg "tuple" = none) (z_list : mg "list" = none) {f_Ldraw : Addr} {fd_Ldraw : FuncData} (F_Ldraw : FnG P w K mg base CX0 1 f_Ldraw fd_Ldraw ["_law_deck_here", "_law_many"] (liftSp K sp_Ldraw)) (q_Ldraw : Gkb K mg "_law_draw" f_Ldraw fd_Ldraw ["_law_deck_here", "_law_many"]) {f_Lone : Addr} {fd_Lone : FuncData} (F_Lone : FnG P w K mg base CX0 2 f_Lone fd_Lone ["_law_deck_here", "_law_items"] (liftSp K sp_Lone)) (q_Lone : Gkb K mg "_law_one" f_Lone fd_Lone ["_law_deck_here", "_law_items"]) : FnG P w K mg base CX0 3 f fd ["_law_deck_here", "_law_pair_here", "_law_many"] (liftSp K sp_Lplain_box) := by
  have nd := sc_Lplain_box.nd
  replace F_Ldraw := F_Ldraw.mono (show 1 ≤ 2 by decide)
  replace F_Lone := F_Lone.mono (show 2 ≤ 2 by decide)
  refine okD (wb := w_Lplain_box) F sc_Lplain_box ln_Lplain_box (fun cdv A outer s H E hr => ?_) rd_Lplain_box
  exact (jss_cons (jset 3 nd (jm_e (je_call (m := [true, false]) F_Lone hr rfl q_Lone.g q_Lone.k q_Lone.b (ja_cons (jv 0) (ja_cons (je_ofL (jl_ty c_lst rfl z_list boot_list (ja_cons (jv 1) ja_nil))) ja_nil)))))
    (jss_one (js_ret (je_ty c_tup rfl z_tuple boot_tuple (ja_cons (je_ofL (jl_comp (own := [("_law_side", 4)]) rfl nd (ji_seq (jv 3)) (blkOk_by (by kernel_rfl)) (by decide) (fun _ _ _ _ _ => (jgn 4 nd)) (fun _ _ _ _ _ => jts_nil) (fun _ _ _ _ _ => (je_op d_mulT (jv 4) (je_op d_addB je_int (je_call (m := [true, false]) F_Ldraw hr rfl q_Ldraw.g q_Ldraw.k q_Ldraw.b (ja_cons (jv 0) (ja_cons (jv 2) ja_nil)))))))) ja_nil)))))
set_option maxHeartbeats 0 in
theorem ok_Lwith {f : Addr} {fd : FuncData} (F : Fun K "_law_with" "_law_with" s_Lwith f fd)  : FnG P w K mg base CX0 1 f fd ["_law_sides_here", "_law_axis", "_law_side"] (liftSp K sp_Lwith) := by
  have nd := sc_Lwith.nd
  refine okD (wb := w_Lwith) F sc_Lwith ln_Lwith (fun cdv A outer s H E hr => ?_) rd_Lwith
  exact (jss_one (js_ret (je_op d_addB (je_op d_addB (je_sl d_sl (jv 0) jo_none (jo_some (jv 1))) (je_tup (ja_cons (jv 2) ja_nil))) (je_sl d_sl (jv 0) (jo_some (je_op d_addB (jv 1) je_int)) jo_none))))
set_option maxHeartbeats 0 in
theorem ok_Lnear {f : Addr} {fd : FuncData} (F : Fun K "_law_near" "_law_near" s_Lnear f fd) (z_len : mg "len" = none) {f_Ldraw : Addr} {fd_Ldraw : FuncData} (F_Ldraw : FnG P w K mg base CX0 1 f_Ldraw fd_Ldraw ["_law_deck_here", "_law_many"] (liftSp K sp_Ldraw)) (q_Ldraw : Gkb K mg "_law_draw" f_Ldraw fd_Ldraw ["_law_deck_here", "_law_many"]) {f_Lplain_box : Addr} {fd_Lplain_box : FuncData} (F_Lplain_box : FnG P w K mg base CX0 3 f_Lplain_box fd_Lplain_box ["_law_deck_here", "_law_pair_here", "_law_many"] (liftSp K sp_Lplain_box)) (q_Lplain_box : Gkb K mg "_law_plain_box" f_Lplain_box fd_Lplain_box ["_law_deck_here", "_law_pair_here", "_law_many"]) {f_Lwith : Addr} {fd_Lwith : FuncData} (F_Lwith : FnG P w K mg base CX0 1 f_Lwith fd_Lwith ["_law_sides_here", "_law_axis", "_law_side"] (liftSp K sp_Lwith)) (q_Lwith : Gkb K mg "_law_with" f_Lwith fd_Lwith ["_law_sides_here", "_law_axis", "_law_side"]) {f_Lcut_box : Addr} {fd_Lcut_box : FuncData} (F_Lcut_box : FnG P w K mg base CX0 3 f_Lcut_box fd_Lcut_box ["_law_deck_here", "_law_pair_here", "_law_many"] (liftSp K sp_Lcut_box)) (q_Lcut_box : Gkb K mg "_law_cut_box" f_Lcut_box fd_Lcut_box ["_law_deck_here", "_law_pair_here", "_law_many"]) : FnG P w K mg base CX0 4 f fd ["_law_deck_here", "_law_pair_here"] (liftSp K sp_Lnear) := by
  have nd := sc_Lnear.nd
  replace F_Ldraw := F_Ldraw.mono (show 1 ≤ 3 by decide)
  replace F_Lplain_box := F_Lplain_box.mono (show 3 ≤ 3 by decide)
  replace F_Lwith := F_Lwith.mono (show 1 ≤ 3 by decide)
  replace F_Lcut_box := F_Lcut_box.mono (show 3 ≤ 3 by decide)
  refine okD (wb := w_Lnear) F sc_Lnear ln_Lnear (fun cdv A outer s H E hr => ?_) rd_Lnear
  exact (jss_cons (jpar (i := 2) (j := 3) rfl nd rfl rfl (by decide) (jms_cons (jm_e (je_call (m := [true, false]) F_Ldraw hr rfl q_Ldraw.g q_Ldraw.k q_Ldraw.b (ja_cons (jv 0) (ja_cons je_int ja_nil)))) (jms_cons (jm_e (je_fn c_len rfl z_len boot_len (ja_cons (je_ix d_ix (jv 1) je_int (fun _ _ => rfl)) ja_nil))) jms_nil)))
    (jss_cons (js_if (jt_cmp (d_eq hr.u64) (jv 2) je_int) (jss_one (js_ret (je_tup (ja_cons (je_call (m := [true, false, false]) F_Lplain_box hr rfl q_Lplain_box.g q_Lplain_box.k q_Lplain_box.b (ja_cons (jv 0) (ja_cons (jv 1) (ja_cons je_int ja_nil)))) (ja_cons (je_call (m := [true, false, false]) F_Lcut_box hr rfl q_Lcut_box.g q_Lcut_box.k q_Lcut_box.b (ja_cons (jv 0) (ja_cons (jv 1) (ja_cons je_int ja_nil)))) ja_nil))))) jss_nil)
    (jss_cons (js_if (jt_cmp (d_eq hr.u64) (jv 2) je_int) (jss_one (js_ret (je_revA (jv 1)))) jss_nil)
    (jss_cons (jset 4 nd (jm_e (je_call (m := [true, false]) F_Ldraw hr rfl q_Ldraw.g q_Ldraw.k q_Ldraw.b (ja_cons (jv 0) (ja_cons (jv 3) ja_nil)))))
    (jss_cons (js_if (jt_cmp (d_eq hr.u64) (jv 2) je_int) (jss_one (js_ret (je_tup (ja_cons (je_ix d_ix (jv 1) je_int (fun _ _ => rfl)) (ja_cons (je_call (m := []) F_Lwith hr rfl q_Lwith.g q_Lwith.k q_Lwith.b (ja_cons (je_ix d_ix (jv 1) je_int (fun _ _ => rfl)) (ja_cons (jv 4) (ja_cons (je_op d_addB je_int (je_call (m := [true, false]) F_Ldraw hr rfl q_Ldraw.g q_Ldraw.k q_Ldraw.b (ja_cons (jv 0) (ja_cons je_int ja_nil)))) ja_nil)))) ja_nil))))) jss_nil)
    (jss_one (js_ret (je_tup (ja_cons (je_call (m := [true, false, false]) F_Lplain_box hr rfl q_Lplain_box.g q_Lplain_box.k q_Lplain_box.b (ja_cons (jv 0) (ja_cons (jv 1) (ja_cons je_int ja_nil)))) (ja_cons (je_ix d_ix (jv 1) (je_call (m := [true, false]) F_Ldraw hr rfl q_Ldraw.g q_Ldraw.k q_Ldraw.b (ja_cons (jv 0) (ja_cons je_int ja_nil))) (fun _ _ => rfl)) ja_nil))))))))))
set_option maxHeartbeats 0 in
theorem ok_Lis_refused {f : Addr} {fd : FuncData} (F : Fun K "_law_is_refused" "_law_is_refused" s_Lis_refused f fd) {TL : XNames} (z_isinstance : mg "isinstance" = none) (tl : TLok K TL) (y_UnlikeAxes : YC K mg TL "UnlikeAxes" (fun _ => true)) (i_BrickError : IC K mg TL "BrickError" (fun _ => true)) : FnLX P w K TL mg base 1 f fd ["_law_call"] sp_Lis_refused := by
  have nd := sc_Lis_refused.nd
  refine okLX (wb := w_Lis_refused) F sc_Lis_refused ln_Lis_refused (fun cdv A outer s H f m lm hr act => ?_) rd_Lis_refused
  exact (jss_cons (js_noX (TL := TL) (jsx_tryx (i := 2) tl y_UnlikeAxes rfl rfl nd rfl rfl rfl (fun pn xe po => (jssx_cons (jsx_expr (act.je (i := 0) rfl (.inl rfl)))
    (jssx_one (jsx_of (jset 1 nd (jm_e je_bl)))))) (fun a oe cls d pn hz hv hC => (jss_one (jset 1 nd (jm_e (je_isxx tl i_BrickError hz hv hC (i := 2) rfl (.inl rfl) rfl rfl z_isinstance)))))))
    (jss_one (js_ret (jv 1))))
set_option maxHeartbeats 0 in
theorem ok_law {f : Addr} {fd : FuncData} (F : Fun K "law" "law" s_law f fd) {TL : XNames} (z_range : mg "range" = none) (z_tuple : mg "tuple" = none) (z_repr : mg "repr" = none) {f_alike : Addr} {fd_alike : FuncData} (F_alike : FnG P w K mg base (L2N.CX P w) 8 f_alike fd_alike ["one", "other"] (liftSpX K TL sp_alike_k25)) (q_alike : Gkb K mg "alike" f_alike fd_alike ["one", "other"]) {f_Lis_refused : Addr} {fd_Lis_refused : FuncData} (F_Lis_refused : FnLX P w K TL mg base 1 f_Lis_refused fd_Lis_refused ["_law_call"] sp_Lis_refused) (q_Lis_refused : Gkb K mg "_law_is_refused" f_Lis_refused fd_Lis_refused ["_law_call"]) {f_escape : Addr} {fd_escape : FuncData} (F_escape : FnG P w K mg base (L2N.CX P w) 6 f_escape fd_escape ["one", "other"] (liftSpX K TL sp_escape_k25)) (q_escape : Gkb K mg "escape" f_escape fd_escape ["one", "other"]) {f_within : Addr} {fd_within : FuncData} (F_within : FnG P w K mg base (L2N.CX P w) 7 f_within fd_within ["one", "other"] (liftSpX K TL sp_within_k25)) (q_within : Gkb K mg "within" f_within fd_within ["one", "other"]) {f_Lis_filled : Addr} {fd_Lis_filled : FuncData} (F_Lis_filled : FnG P w K mg base CX0 2 f_Lis_filled fd_Lis_filled ["_law_pair_here", "_law_box"] (liftSp K sp_Lis_filled)) (q_Lis_filled : Gkb K mg "_law_is_filled" f_Lis_filled fd_Lis_filled ["_law_pair_here", "_law_box"]) {f_Lone : Addr} {fd_Lone : FuncData} (F_Lone : FnG P w K mg base CX0 2 f_Lone fd_Lone ["_law_deck_here", "_law_items"] (liftSp K sp_Lone)) (q_Lone : Gkb K mg "_law_one" f_Lone fd_Lone ["_law_deck_here", "_law_items"]) {f_Lpair : Addr} {fd_Lpair : FuncData} (F_Lpair : FnG P w K mg base CX0 3 f_Lpair fd_Lpair ["_law_deck_here", "_law_axes", "_law_most"] (liftSp K sp_Lpair)) (q_Lpair : Gkb K mg "_law_pair" f_Lpair fd_Lpair ["_law_deck_here", "_law_axes", "_law_most"]) {f_Lnear : Addr} {fd_Lnear : FuncData} (F_Lnear : FnG P w K mg base CX0 4 f_Lnear fd_Lnear ["_law_deck_here", "_law_pair_here"] (liftSp K sp_Lnear)) (q_Lnear : Gkb K mg "_law_near" f_Lnear fd_Lnear ["_law_deck_here", "_law_pair_here"]) {f_Ldraw : Addr} {fd_Ldraw : FuncData} (F_Ldraw : FnG P w K mg base CX0 1 f_Ldraw fd_Ldraw ["_law_deck_here", "_law_many"] (liftSp K sp_Ldraw)) (q_Ldraw : Gkb K mg "_law_draw" f_Ldraw fd_Ldraw ["_law_deck_here", "_law_many"]) {f_Ldeck : Addr} {fd_Ldeck : FuncData} (F_Ldeck : FnG P w K mg base CX0 1 f_Ldeck fd_Ldeck ["_law_script"] (liftM K sp_Ldeck)) (q_Ldeck : Gkb K mg "_law_deck" f_Ldeck fd_Ldeck ["_law_script"]) {c_law P_law : Addr} (tb_law : LamX.TabB base mg c_law P_law) (hc_law : fd.code = .ref c_law) (tm_law : (P_law, (envOfC "law" (defScope s_law) 0 0 .none).qual ++ "<lambda>") ∈ Tb.T) (tu_law : ∀ p ∈ Tb.T, p.1 = P_law → p.2 = (envOfC "law" (defScope s_law) 0 0 .none).qual ++ "<lambda>") : FnG P w K mg base CX0 11 f fd ["_law_script"] (liftSp K sp_law) := by
  have nd := sc_law.nd
  have G_alike := F_alike.mono (show 8 ≤ 8 by decide)
  have G_escape := F_escape.mono (show 6 ≤ 8 by decide)
  have G_within := F_within.mono (show 7 ≤ 8 by decide)
  replace F_alike := F_alike.mono (show 8 ≤ 10 by decide)
  replace F_Lis_refused := F_Lis_refused.mono (show 1 ≤ 10 by decide)
  replace F_escape := F_escape.mono (show 6 ≤ 10 by decide)
  replace F_within := F_within.mono (show 7 ≤ 10 by decide)
  replace F_Lis_filled := F_Lis_filled.mono (show 2 ≤ 10 by decide)
  replace F_Lone := F_Lone.mono (show 2 ≤ 10 by decide)
  replace F_Lpair := F_Lpair.mono (show 3 ≤ 10 by decide)
  replace F_Lnear := F_Lnear.mono (show 4 ≤ 10 by decide)
  replace F_Ldraw := F_Ldraw.mono (show 1 ≤ 10 by decide)
  replace F_Ldeck := F_Ldeck.mono (show 1 ≤ 10 by decide)
  refine okDc (c := c_law) (wb := w_law) F hc_law sc_law ln_law (fun A outer s H E hr => ?_) rd_law
  exact (jss_cons (jset 1 nd (jm_call (m := [true]) F_Ldeck hr rfl q_Ldeck.g q_Ldeck.k q_Ldeck.b (ja_cons (jv 0) ja_nil)))
    (jss_cons (js_for PassesOwn.never rfl (ji_range1 rfl z_range (ja_cons je_int ja_nil)) (jgn 2 nd) (jss_cons (jset 3 nd (jm_e (je_op d_addB je_int (je_call (m := [true, false]) F_Ldraw hr rfl q_Ldraw.g q_Ldraw.k q_Ldraw.b (ja_cons (jv 1) (ja_cons je_int ja_nil))))))
    (jss_cons (jset 4 nd (jm_e (je_call (m := [true, false, false]) F_Lpair hr rfl q_Lpair.g q_Lpair.k q_Lpair.b (ja_cons (jv 1) (ja_cons (jv 3) (ja_cons je_int ja_nil))))))
    (jss_cons (jset 5 nd (jm_e (je_call (m := [true, false]) F_Lone hr rfl q_Lone.g q_Lone.k q_Lone.b (ja_cons (jv 1) (ja_cons (je_ofL (jl_lst (ja_cons (je_call (m := [true, false]) F_Lnear hr rfl q_Lnear.g q_Lnear.k q_Lnear.b (ja_cons (jv 1) (ja_cons (jv 4) ja_nil))) (ja_cons (je_call (m := [true, false, false]) F_Lpair hr rfl q_Lpair.g q_Lpair.k q_Lpair.b (ja_cons (jv 1) (ja_cons (jv 3) (ja_cons je_int ja_nil)))) (ja_cons (jv 4) ja_nil))))) ja_nil)))))
    (jss_cons (js_setCE (i := 6) (own := [("_law_own", 8), ("_law_far", 9)]) rfl nd rfl rfl (sw_true rfl rfl rfl (by decide +kernel)) (ji_seq (je_tup (ja_cons (je_tup (ja_cons (jv 4) (ja_cons (jv 5) ja_nil))) (ja_cons (je_tup (ja_cons (jv 5) (ja_cons (jv 4) ja_nil))) ja_nil)))) (blkOk_by (by kernel_rfl)) (by decide) (fun _ _ _ _ _ => (jg_tup rfl (jgs_cons (jgn 8 nd) (jgs_cons (jgn 9 nd) jgs_nil)) (gs_lenN (gs_lenN gs_len0)))) (fun _ _ _ _ _ => jts_nil) (fun _ _ _ _ _ => (je_ofL (jl_comp (own := [("_law_brick", 7)]) rfl nd (ji_seq (jv 8)) (blkOk_by (by kernel_rfl)) (by decide) (fun _ _ _ _ _ => (jgn 7 nd)) (fun _ _ _ _ _ => (jts_one (jt_not (jt_val (je_call (m := []) F_Lis_filled hr rfl q_Lis_filled.g q_Lis_filled.k q_Lis_filled.b (ja_cons (jv 9) (ja_cons (jv 7) ja_nil))))))) (fun _ _ _ _ _ => (jv 7))))))
    (jss_cons (jset 10 nd (jm_e (je_ofL (jl_lst (ja_cons (jnx (TL := TL) (jex_call (m := []) F_within hr rfl q_within.g q_within.k q_within.b (jxa (ja_cons (jv 4) (ja_cons (jv 5) ja_nil))))) (ja_cons (jnx (TL := TL) (jex_call (m := []) F_within hr rfl q_within.g q_within.k q_within.b (jxa (ja_cons (jv 5) (ja_cons (jv 4) ja_nil))))) (ja_cons (jnx (TL := TL) (jex_call (m := []) F_escape hr rfl q_escape.g q_escape.k q_escape.b (jxa (ja_cons (jv 4) (ja_cons (jv 5) ja_nil))))) (ja_cons (jnx (TL := TL) (jex_call (m := []) F_escape hr rfl q_escape.g q_escape.k q_escape.b (jxa (ja_cons (jv 5) (ja_cons (jv 4) ja_nil))))) (ja_cons (jnx (TL := TL) (jex_call (m := []) F_alike hr rfl q_alike.g q_alike.k q_alike.b (jxa (ja_cons (jv 4) (ja_cons (jv 5) ja_nil))))) ja_nil)))))))))
    (jss_cons (jset 11 nd (jm_e (je_ofL (jl_lst (ja_cons (je_cmp (d_eq hr.u64) (je_ix d_ix (jv 6) je_int (fun _ _ => rfl)) (je_ofL (jl_lst ja_nil))) (ja_cons (je_cmp (d_eq hr.u64) (je_ix d_ix (jv 6) je_int (fun _ _ => rfl)) (je_ofL (jl_lst ja_nil))) (ja_cons (je_ix d_ix (je_op d_addB (je_ix d_ix (jv 6) je_int (fun _ _ => rfl)) (je_ofL (jl_lst (ja_cons je_non ja_nil)))) je_int (fun _ _ => rfl)) (ja_cons (je_ix d_ix (je_op d_addB (je_ix d_ix (jv 6) je_int (fun _ _ => rfl)) (je_ofL (jl_lst (ja_cons je_non ja_nil)))) je_int (fun _ _ => rfl)) (ja_cons (je_cmp (d_eq hr.u64) (jv 6) (je_ofL (jl_lst (ja_cons (je_ofL (jl_lst ja_nil)) (ja_cons (je_ofL (jl_lst ja_nil)) ja_nil))))) ja_nil)))))))))
    (jss_cons (js_if (jt_w (jw_or (jt_cmp (d_ne hr.u64) (je_fn (c_reprN hr.gd hr.u64) rfl z_repr boot_repr (ja_cons (jv 10) ja_nil)) (je_fn (c_reprN hr.gd hr.u64) rfl z_repr boot_repr (ja_cons (jv 11) ja_nil))) (jw_or (jt_cmp d_isnot (jnx (TL := TL) (jex_call (m := []) F_alike hr rfl q_alike.g q_alike.k q_alike.b (jxa (ja_cons (jv 4) (ja_cons (jv 4) ja_nil))))) je_bl) (jw_or1 (jt_cmp d_isnot (jnx (TL := TL) (jex_call (m := []) F_escape hr rfl q_escape.g q_escape.k q_escape.b (jxa (ja_cons (jv 4) (ja_cons (jv 4) ja_nil))))) je_non))))) (jss_one (js_ret je_bl)) jss_nil)
    (jss_cons (jset 12 nd (jm_e (je_ifE (jt_cmp d_lt (jv 3) je_int) (je_ty c_tup rfl z_tuple boot_tuple (ja_cons (je_ofL (jl_comp (own := [("_law_brick", 7)]) rfl nd (ji_seq (jv 4)) (blkOk_by (by kernel_rfl)) (by decide) (fun _ _ _ _ _ => (jgn 7 nd)) (fun _ _ _ _ _ => jts_nil) (fun _ _ _ _ _ => (je_op d_addB (jv 7) (je_tup (ja_cons je_int ja_nil)))))) ja_nil)) (je_ty c_tup rfl z_tuple boot_tuple (ja_cons (je_ofL (jl_comp (own := [("_law_brick", 7)]) rfl nd (ji_seq (jv 4)) (blkOk_by (by kernel_rfl)) (by decide) (fun _ _ _ _ _ => (jgn 7 nd)) (fun _ _ _ _ _ => jts_nil) (fun _ _ _ _ _ => (je_sl d_sl (jv 7) (jo_some je_int) jo_none)))) ja_nil)))))
    (jss_cons (jset 13 nd (jm_l (jl_lst (ja_cons (je_lamX (TL := TL) (N := ["_law_one_here", "_law_wide"]) (fr := ["_law_one_here", "_law_wide"]) (js := [4, 12]) (j := 8) F_Lis_refused hr (by decide) rfl q_Lis_refused.g q_Lis_refused.k q_Lis_refused.b tb_law rfl tm_law tu_law rfl (NdefX.nscope_by (by decide +kernel)) (NdefX.ndef_free (sc := defScope s_law) (fr := ["_law_one_here", "_law_wide"]) (by decide +kernel)) (NdefX.ndef_fr (sc := defScope s_law) (by decide +kernel)) rfl (fun _ _ _ _ _ _ us hl => match us, hl with | [], _ => rfl) (fun _ _ _ _ _ _ _ hr => (jex_call (m := []) G_within hr rfl q_within.g q_within.k q_within.b (jxa (ja_cons (jv 0) (ja_cons (jv 1) ja_nil)))))) ja_nil))))
    (jss_cons (js_append (jpv 13) (je_lamX (TL := TL) (N := ["_law_wide", "_law_one_here"]) (fr := ["_law_wide", "_law_one_here"]) (js := [12, 4]) (j := 8) F_Lis_refused hr (by decide) rfl q_Lis_refused.g q_Lis_refused.k q_Lis_refused.b tb_law rfl tm_law tu_law rfl (NdefX.nscope_by (by decide +kernel)) (NdefX.ndef_free (sc := defScope s_law) (fr := ["_law_wide", "_law_one_here"]) (by decide +kernel)) (NdefX.ndef_fr (sc := defScope s_law) (by decide +kernel)) rfl (fun _ _ _ _ _ _ us hl => match us, hl with | [], _ => rfl) (fun _ _ _ _ _ _ _ hr => (jex_call (m := []) G_escape hr rfl q_escape.g q_escape.k q_escape.b (jxa (ja_cons (jv 0) (ja_cons (jv 1) ja_nil)))))) rfl rfl (pe_bm PySem.F.plainAttrs_list PySem.F.slot_list_append PySem.F.type_list_append mt_append (jpv 13) (pa_cons (je_lamX (TL := TL) (N := ["_law_wide", "_law_one_here"]) (fr := ["_law_wide", "_law_one_here"]) (js := [12, 4]) (j := 8) F_Lis_refused hr (by decide) rfl q_Lis_refused.g q_Lis_refused.k q_Lis_refused.b tb_law rfl tm_law tu_law rfl (NdefX.nscope_by (by decide +kernel)) (NdefX.ndef_free (sc := defScope s_law) (fr := ["_law_wide", "_law_one_here"]) (by decide +kernel)) (NdefX.ndef_fr (sc := defScope s_law) (by decide +kernel)) rfl (fun _ _ _ _ _ _ us hl => match us, hl with | [], _ => rfl) (fun _ _ _ _ _ _ _ hr => (jex_call (m := []) G_escape hr rfl q_escape.g q_escape.k q_escape.b (jxa (ja_cons (jv 0) (ja_cons (jv 1) ja_nil)))))) pa_nil)))
    (jss_cons (js_append (jpv 13) (je_lamX (TL := TL) (N := ["_law_one_here", "_law_wide"]) (fr := ["_law_one_here", "_law_wide"]) (js := [4, 12]) (j := 8) F_Lis_refused hr (by decide) rfl q_Lis_refused.g q_Lis_refused.k q_Lis_refused.b tb_law rfl tm_law tu_law rfl (NdefX.nscope_by (by decide +kernel)) (NdefX.ndef_free (sc := defScope s_law) (fr := ["_law_one_here", "_law_wide"]) (by decide +kernel)) (NdefX.ndef_fr (sc := defScope s_law) (by decide +kernel)) rfl (fun _ _ _ _ _ _ us hl => match us, hl with | [], _ => rfl) (fun _ _ _ _ _ _ _ hr => (jex_call (m := []) G_alike hr rfl q_alike.g q_alike.k q_alike.b (jxa (ja_cons (jv 0) (ja_cons (jv 1) ja_nil)))))) rfl rfl (pe_bm PySem.F.plainAttrs_list PySem.F.slot_list_append PySem.F.type_list_append mt_append (jpv 13) (pa_cons (je_lamX (TL := TL) (N := ["_law_one_here", "_law_wide"]) (fr := ["_law_one_here", "_law_wide"]) (js := [4, 12]) (j := 8) F_Lis_refused hr (by decide) rfl q_Lis_refused.g q_Lis_refused.k q_Lis_refused.b tb_law rfl tm_law tu_law rfl (NdefX.nscope_by (by decide +kernel)) (NdefX.ndef_free (sc := defScope s_law) (fr := ["_law_one_here", "_law_wide"]) (by decide +kernel)) (NdefX.ndef_fr (sc := defScope s_law) (by decide +kernel)) rfl (fun _ _ _ _ _ _ us hl => match us, hl with | [], _ => rfl) (fun _ _ _ _ _ _ _ hr => (jex_call (m := []) G_alike hr rfl q_alike.g q_alike.k q_alike.b (jxa (ja_cons (jv 0) (ja_cons (jv 1) ja_nil)))))) pa_nil)))
    (jss_one (js_if (jt_cmp (d_ne hr.u64) (jv 13) (je_op d_mulT (je_ofL (jl_lst (ja_cons je_bl ja_nil))) je_int)) (jss_one (js_ret je_bl)) jss_nil))))))))))))))
    (jss_one (js_ret je_bl))))
end K25
set_option Elab.async false
set_option linter.all false
set_option maxRecDepth 100000
set_option maxHeartbeats 4000000
namespace DL
open PySem PySem.Spec PyProof.Rows L2
variable [Tb]
structure Cl where
  c : Value
  i : Option Nat
  ts : Addr → Value → Option Addr → TS
def gone (i : Option Nat) (D : Ends) : Ends := match i with
  | none => D
  | some i => { nx := fun σ H => D.nx (σ.set i none) H, rt := D.rt, bk := fun σ H => D.bk (σ.set i none) H, ct := fun σ H => D.ct (σ.set i none) H }
def named (i : Option Nat) (a : Addr) (σ : L2.St) : L2.St := match i with
  | none => σ
  | some i => σ.set i (some (.ref a))
def wCls (K : PySem.W.Frag) (W : WX) (D : Ends) : List Cl → WX
  | [] => W
  | q :: r => fun cls d σ H => ∃ b, PySem.W.exmOne K cls q.c = some b ∧ if b = true then ∀ a, H a = none → q.ts a cls d (gone q.i D) (named q.i a σ) H else wCls K W D r cls d σ H
inductive ClsOk (X : Cx) : List ExceptHandler → List Cl → Prop
  | nil : ClsOk X [] []
  | cons {x : Str} {q : Cl} {n : Option Str} {b : Stmt} {bs : List Stmt} {np p : Pos} {hs : List ExceptHandler} {l : List Cl} (hc : Names X x q.c)
      (hn : match n, q.i with
        | none, none => True
        | some y, some i => X.N[i]? = some y ∧ X.env.kindOf y = some .local
        | _, _ => False)
      (su : ∀ (a : Addr) (o : Obj) (cls : Value) (d : Option Addr) (pn : List (Addr × Obj)), L2N.Zn cls d o → (∃ vs, o.data = .fields vs) → PSs (X.suite a ((a, o) :: pn)) (b :: bs) (q.ts a cls d)) (r : ClsOk X hs l) :
      ClsOk X (.ExceptHandler (some (.Name x np)) n (b :: bs) p :: hs) (q :: l)
section
variable {X : Cx} {pins : List (Addr × Obj)} {σ : L2.St} {H : Hp} {a : Addr} {cls : Value} {d : Option Addr} {D : Ends} {W : WX}
structure Aloft (X : Cx) (pins : List (Addr × Obj)) (σ : L2.St) (H : Hp) (a : Addr) (cls : Value) (d : Option Addr) (z : Shared) : Prop where
  ex : ∃ (B : Heap) (y : Shared), Inv X pins σ H y ∧ (∀ b o, y.heap.get? b = some o → b ∉ frs X.stack → B.get? b = some o) ∧ y.heap.UpToSlots z.heap ∧ HandSPX.FlyingZ B (X.env :: X.outer) a (L2N.Zn cls d) z.heap ∧ z.os = y.os ∧ AllBare z.gens
  na : H a = none
theorem Aloft.inv {z : Shared} (A : Aloft X pins σ H a cls d z) : Inv X pins σ H z := by
  obtain ⟨⟨B, y, J, nb, up, fl, os, ag⟩, _⟩ := A
  exact J.landed nb fl.1 up os ag
theorem Aloft.obj (hs : X.stack = X.env :: X.outer) (hf : X.env.frame = some X.env.locals) {z : Shared} (A : Aloft X pins σ H a cls d z) : ∃ o, z.heap.get? a = some o ∧ L2N.Zn cls d o ∧ (∃ vs, o.data = .fields vs) ∧ Inv (X.suite a ((a, o) :: (X.pn ++ pins))) [] σ H z := by
  have I := A.inv
  obtain ⟨⟨B, y, _, _, _, fl, _, _⟩, na⟩ := A
  obtain ⟨o, vs, at_, zn, dd⟩ := fl.there
  have out : a ∉ frs (X.env :: X.outer) := fun m => by
    obtain ⟨_, o', e', no⟩ := fl.2.2.1.mem m
    rw [at_] at e'
    cases e'
    exact no _ dd
  refine ⟨o, at_, zn, ⟨vs, dd⟩, I.suite at_ dd na (fun z => out ?_) fun m => out ?_⟩
  · exact List.mem_filterMap.mpr ⟨X.env, List.mem_cons_self, by rw [hf, z]⟩
  · obtain ⟨e, me, q⟩ := List.mem_filterMap.mp m
    exact List.mem_filterMap.mpr ⟨e, List.mem_cons_of_mem _ me, q⟩
theorem Aloft.mark {M : Model} {A : Around} {E : Value → Shared → Prop} {Q : Unit → Shared → Prop} {z : Shared} (h : Aloft X pins σ H a cls d z) (hQ : ∀ z', Aloft X pins σ H a cls d z' → Q () z') : wpAny M A (setFlight (.ref a) none) Q E z := by
  obtain ⟨⟨B, y, J, nb, up, fl, os, ag⟩, na⟩ := h
  exact HandSPX.lands_againZ fl fun h' fl' up' => hQ _ ⟨⟨B, y, J, nb, up.trans up', fl', os, ag⟩, na⟩
theorem Aloft.on (hs : X.stack = X.env :: X.outer) (hf : X.env.frame = some X.env.locals) (tk : L2N.Takes X W) {z : Shared} (h : Aloft X pins σ H a cls d z) (w : W cls d σ H) {Q : Flow → Shared → Prop} : wpAny (model X.prog X.w) X.A (handleBy (.ref a) X.env []) Q X.xe z := by
  obtain ⟨⟨B, y, J, nb, up, fl, os, ag⟩, na⟩ := h
  have last : wpAny (model X.prog X.w) X.A (setFlight (.ref a) X.env.frame) (fun _ z' => wpAny (model X.prog X.w) X.A (throw (.ref a) : Sem Flow) Q X.xe z') X.xe z := by
    rw [hf]
    refine HandSPX.setFlight_upZ fl fun h' held up' => wpAny_throw (tk _ _ ⟨a, B, y, pins, σ, H, cls, d, rfl, J, nb, up.trans up', .inr (.inr ?_), na, os, ag, w⟩)
    rw [hs]
    exact held
  obtain ⟨_, _, _, o, vs, T, _, _, at_, _, dd, f1, _⟩ := id fl
  refine wpAny_handleBy_nil ?_
  unfold PySem.passOn
  refine wpAny_bind (wpAny_field at_ dd f1 ?_)
  have no : ¬ ((Value.ref T == Value.none) = true) := by simp
  rw [if_neg no]
  first
    | exact wpAny_bind last
    | exact wpAny_bind (wpAny_pure (wpAny_bind last))
theorem suite_ends {i : Option Nat} {n : Option Str} {o : Obj} {p : Pos} {f : Flow} {z : Shared} (ok : X.Ok) (hN : X.N.Nodup) (hn : match n, i with
        | none, none => True
        | some y, some i => X.N[i]? = some y ∧ X.env.kindOf y = some .local
        | _, _ => False) (h : SP (X.suite a ((a, o) :: (X.pn ++ pins))) [] (gone i D) f z) :
    match n with
    | none => SP X pins D f z
    | some y => wpAny (model X.prog X.w) X.A (do bindName X.env y .none; unbindBehindTheSuite X.env y p) (fun _ z' => SP X pins D f z') X.xe z := by
  cases n with
  | none =>
    cases i with
    | some i => exact hn.elim
    | none => cases f with
      | ret u => obtain ⟨v, τ, H6, J, q⟩ := h; exact ⟨v, τ, H6, J.unsuite ok, q⟩
      | _ => obtain ⟨τ, H6, J, q⟩ := h; exact ⟨τ, H6, J.unsuite ok, q⟩
  | some y =>
    cases i with
    | none => exact hn.elim
    | some i => cases f with
      | ret u => obtain ⟨v, τ, H6, J, q⟩ := h; exact gone_ok (J.unsuite ok) hN hn.1 hn.2 fun _ J' => ⟨v, _, H6, J', q⟩
      | _ => obtain ⟨τ, H6, J, q⟩ := h; exact gone_ok (J.unsuite ok) hN hn.1 hn.2 fun _ J' => ⟨_, H6, J', q⟩
theorem clauses (hs : X.stack = X.env :: X.outer) (hf : X.env.frame = some X.env.locals) (hN : X.N.Nodup) (ok : X.Ok) (tk : L2N.Takes X W) : ∀ {hds : List ExceptHandler} {l : List Cl}, ClsOk X hds l → ∀ {z : Shared}, Aloft X pins σ H a cls d z → wCls X.K W D l cls d σ H →
    wpAny (model X.prog X.w) X.A (handleBy (.ref a) X.env hds) (SP X pins D) X.xe z
  | _, _, .nil, _, A, w => A.on hs hf tk w
  | _, _, .cons (x := x) (q := q) (n := n) (b := b₀) (bs := bs) (np := np) (p := p) (hs := hds') (l := l') hc hn su r, z, A, w => by
    obtain ⟨b, eb, w⟩ := w
    obtain ⟨o, at_, zn, fd, S⟩ := A.obj hs hf
    have looks : PySem.W.Looks (model X.prog X.w) z.heap (typeOf (.ref a)) cls := fun _ _ _ _ k h => wpAny_typeOf_ref (k _ _ at_) (zn.1.symm ▸ h)
    have is := PySem.W.exm_one (M := model X.prog X.w) A.inv.kIn looks eb
    refine wpAny_handleBy_cons (codeAny_handlers_test ?_) fun e => (nomatch e)
    have name : ∀ {Q : Value → Shared → Prop} {E : Value → Shared → Prop}, Q q.c z → wpAny (model X.prog X.w) (X.A.mark (some (.ref a))) (eval (.Name x np) X.env) Q E z := fun {Q E} h => by
      rcases hc with ⟨g, db, m | ⟨m, v, ne⟩⟩
      · exact ld_glob S g m h db
      · exact ld_blt S g m v h ne db
    refine name (is.here ?_)
    cases b with
    | false =>
      exact clauses hs hf hN ok tk r A (by simpa using w)
    | true =>
      have w : ∀ a, H a = none → q.ts a cls d (gone q.i D) (named q.i a σ) H := by simpa using w
      have run : ∀ {z2 z3 : Shared} {o2 : Obj}, Inv (X.suite a ((a, o2) :: (X.pn ++ pins))) [] (named q.i a σ) H z3 → L2N.Zn cls d o2 → (∃ vs, o2.data = .fields vs) →
          wpAny (model X.prog X.w) (X.A.mark (some (.ref a))) (execs (b₀ :: bs) X.env) (SP (X.suite a ((a, o2) :: (X.pn ++ pins))) [] (gone q.i D)) (fun _ _ => False) z3 := fun {z2 z3 o2} J z1 f1 => (su a o2 cls d (X.pn ++ pins) z1 f1).run [] z3 _ H _ J (w a A.na)
      cases n with
      | none =>
        cases ei : q.i with
        | some i => rw [ei] at hn; exact hn.elim
        | none =>
          refine codeAny_handlers_suite (A.mark fun z2 A2 => ?_)
          obtain ⟨o2, _, zn2, fd2, S2⟩ := A2.obj hs hf
          refine wpAny_mono (run (z2 := z2) (by rw [ei]; exact S2) zn2 fd2) (fun f z6 h => ?_) fun _ _ e => e.elim
          exact suite_ends (n := none) (p := p) ok hN hn h
      | some y =>
        cases ei : q.i with
        | none => rw [ei] at hn; exact hn.elim
        | some i =>
          have hn' := hn
          rw [ei] at hn'
          refine codeAny_handlers_suite_as (A.mark fun z2 A2 => ?_)
          obtain ⟨o2, _, zn2, fd2, S2⟩ := A2.obj hs hf
          refine store_ok (X := X.suite a ((a, o2) :: (X.pn ++ pins))) (v := .ref a) S2 hN hn'.1 (.inl hn'.2) rfl (fun z3 S3 => ?_) (.inr hn'.2)
          refine wpAny_mono (run (z2 := z2) (by rw [ei]; exact S3) zn2 fd2) (fun f z6 h => ?_) fun _ _ e => e.elim
          exact suite_ends (n := some y) (p := p) ok hN hn h
end
section
variable {X : Cx} {body : List Stmt} {h₀ : ExceptHandler} {hds : List ExceptHandler} {l : List Cl} {pos : Pos} {tb : WX → TS} {W : WX}
end
abbrev CD := Option Nat × (Str → Bool) × (Addr → Value → Option Addr → DTS)
def doX (i : Option Nat) (wh : Addr → Value → Option Addr → DTS) (n : Str) (fs : List (Str × PyData)) (E : DEnds) (δ : DS) : Prop := match i with
  | none => ∀ (a : Addr) (cls : Value) (d : Option Addr), wh a cls d E δ
  | some i => ∀ (a : Addr) (cls : Value) (d : Option Addr), wh a cls d (hndE i E) (δ.set i (.xc a cls d (excD n fs)))
def pickX : List CD → Str → List (Str × PyData) → DEnds → DS → Prop
  | [], n, fs, E, δ => E.rt (excD n fs) δ
  | q :: r, n, fs, E, δ => if q.2.1 n = true then doX q.1 q.2.2 n fs E δ else pickX r n fs E δ
def tryM (l : List CD) (E : DEnds) : DEnds := { nx := E.nx, bk := E.bk, ct := E.ct, rt := fun x δ' => onX x (fun x => E.rt x δ') (fun n fs => pickX l n fs E δ') .mk }
def wTryM (l : List CD) (wb : DTS) : DTS := fun E δ => wb (tryM l E) δ
omit [Tb] in
@[simp ↓] theorem wTryM_ap (l : List CD) (wb : DTS) (E : DEnds) (δ : DS) : wTryM l wb E δ = wb (tryM l E) δ := rfl
omit [Tb] in
@[simp ↓] theorem tryM_nx (l : List CD) (E : DEnds) : (tryM l E).nx = E.nx := rfl
omit [Tb] in
@[simp ↓] theorem tryM_bk (l : List CD) (E : DEnds) : (tryM l E).bk = E.bk := rfl
omit [Tb] in
@[simp ↓] theorem tryM_ct (l : List CD) (E : DEnds) : (tryM l E).ct = E.ct := rfl
omit [Tb] in
@[simp ↓] theorem tryM_rt (l : List CD) (E : DEnds) (x : PyData) (δ : DS) : (tryM l E).rt x δ = onX x (fun x => E.rt x δ) (fun n fs => pickX l n fs E δ) .mk := rfl
inductive ClsD (X : Cx) (TL : XNames) : List ExceptHandler → List CD → Prop
  | nil : ClsD X TL [] []
  | bare {x : Str} {cat : Str → Bool} {wh : Addr → Value → Option Addr → DTS} {b : Stmt} {bs : List Stmt} {np p : Pos} {hs : List ExceptHandler} {l : List CD} (y : YC X.K X.mg TL x cat) (hg : Gl X x) (hdb : (x == ("__debug__" : Str)) = false)
      (su : ∀ (a : Addr) (oe : Obj) (cls : Value) (d : Option Addr) (pn : List (Addr × Obj)), Zc cls d oe → (∃ vs, oe.data = .fields vs) → (∃ n C, (n, C) ∈ TL ∧ cls = .ref C) → JSs (X.suite a ((a, oe) :: pn)) (b :: bs) (wh a cls d)) (r : ClsD X TL hs l) :
      ClsD X TL (.ExceptHandler (some (.Name x np)) none (b :: bs) p :: hs) ((none, cat, wh) :: l)
  | as {x n : Str} {i : Nat} {cat : Str → Bool} {wh : Addr → Value → Option Addr → DTS} {b : Stmt} {bs : List Stmt} {np p : Pos} {hs : List ExceptHandler} {l : List CD} (y : YC X.K X.mg TL x cat) (hg : Gl X x) (hdb : (x == ("__debug__" : Str)) = false) (hi : X.N[i]? = some n) (hln : X.env.kindOf n = some .local)
      (su : ∀ (a : Addr) (oe : Obj) (cls : Value) (d : Option Addr) (pn : List (Addr × Obj)), Zc cls d oe → (∃ vs, oe.data = .fields vs) → (∃ n C, (n, C) ∈ TL ∧ cls = .ref C) → JSs (X.suite a ((a, oe) :: pn)) (b :: bs) (wh a cls d)) (r : ClsD X TL hs l) :
      ClsD X TL (.ExceptHandler (some (.Name x np)) (some n) (b :: bs) p :: hs) ((some i, cat, wh) :: l)
section
variable {X : Cx} {TL : XNames}
inductive Pair (X : Cx) (TL : XNames) : List Cl → List CD → Prop
  | nil : Pair X TL [] []
  | cons {c : Value} {i : Option Nat} {cat : Str → Bool} {wh : Addr → Value → Option Addr → DTS} {l : List Cl} {m : List CD} (hc : ∀ n C, (n, C) ∈ TL → PySem.W.exmOne X.K (.ref C) c = some (cat n)) (r : Pair X TL l m) :
      Pair X TL (⟨c, i, fun a cls d D σ H => (∃ n C, (n, C) ∈ TL ∧ cls = .ref C) ∧ upS X.K (wh a cls d) D σ H⟩ :: l) ((i, cat, wh) :: m)
end
end DL
set_option Elab.async false
set_option linter.all false
set_option maxRecDepth 100000
set_option maxHeartbeats 4000000
namespace DL
open PySem PySem.Spec PyProof.Rows L2
variable [Tb]
omit [Tb] in
@[simp ↓] theorem sameIo_ob (a : Addr) (n : Str) (fs gs : List (Str × PyData)) (cs : List Cell) (δ : DS) : sameIo (.ob a n fs :: cs) (.ob a n gs :: δ) = sameIo cs δ := propext ⟨fun h => h.2, fun h => ⟨⟨gs, rfl⟩, h⟩⟩
omit [Tb] in
@[simp ↓] theorem outC_ob (a : Addr) (n : Str) (fs : List (Str × PyData)) (e : Cell) (cs : List Cell) (δ : DS) : outC (.ob a n fs :: cs) (e :: δ) = e :: outC cs δ := rfl
end DL
set_option Elab.async false
set_option linter.all false
set_option maxRecDepth 100000
set_option maxHeartbeats 4000000
namespace DL
open PySem PySem.Spec PyProof.Rows L2
theorem walkF {l : PySem.W.OpenLaw} {n k N : Nat} {q : Program} {loose : List Str} {XP : (Str → Option Value) → Heap → Prop} {d : DefRec} {fn : List DefF} {ex : List Ask} {tf : List He.Defn} {sp : PySem.W.Frag → Sp} {x : Str}
    (most : l.most = some n) (fits : n ≤ sizeLine) (plain : d.params.defaults = []) (room : Room k callerA)
    (law : ∀ (w : World) (mg : Str → Option Value) (fa : Addr) (h : Heap) (K : PySem.W.Frag), K.In h → Told fn ex tf h K → h.Ns mainGlobals mg → mg d.name = some (.ref fa) → ∃ fd : FuncData, OneArgT l.prog w K mg k fa x (sp K) (tf.map (He.cT K)) fd)
    (true' : ∀ (K : PySem.W.Frag) (H : Hp) (a : Addr) (ns : List Int), ns.length ≤ n → (∀ p ∈ tf, H (He.cT K p).2 = some (.tbl #[])) → SqL K H a (ns.map V.int) → sp K [.ref a] H (fun v _ => v = .bl true) fun _ _ _ => False) :
    PySem.W.WalkO q loose XP (hookF N fn ex tf).says l.row.toRowW d [] (fun f vs => PySem.call f vs) :=
  Att.attach_call most plain fun w _ s₁ mg mb fa _ _ _ _ a vs ns G Y _ _ _ at_law at_a are few calm => by
    obtain ⟨K, KX, T⟩ := Y
    obtain ⟨_, F⟩ := law w mg fa _ K KX T G.T.g at_law
    refine lawT ⟨KX, G.T.g, ⟨mb, G.T.b, G.T.builtins⟩, G.T.nolimit⟩ calm ⟨at_a, are, Nat.le_trans few fits⟩ ⟨fun p hp => ?_, fun p hp => ?_, fun p hp => ?_⟩ G.T.bmain room F fun H hT reads => true' K H a ns few (fun p hp => hT _ (List.mem_map.mpr ⟨p, hp, rfl⟩)) reads
    · obtain ⟨z, hz, rfl⟩ := List.mem_map.mp hp
      exact PySem.W.codeHd_of_K KX (T.hd z hz)
    · obtain ⟨z, hz, rfl⟩ := List.mem_map.mp hp
      exact T.empty z hz
    · obtain ⟨z, hz, rfl⟩ := List.mem_map.mp hp
      exact T.out z hz
section
variable {K : PySem.W.Frag} {h : Heap} {mg : Str → Option Value}
theorem aG_ok {x : Str} (c : aG x K = true) : PySem.W.nsIn K mainGlobals x = some (some (.ref (He.ga K x))) := He.eqO_ok c
theorem aZ_ok {x : Str} (c : aZ x K = true) : PySem.W.nsIn K mainGlobals x = some none := He.eqO_ok c
theorem aS_ok (X : K.In h) (G : h.Ns mainGlobals mg) {x z : Str} (c : aS x z K = true) : ∃ t, mg x = some (.str z t) := He.str_ok X G c
theorem aExm_ok {C c' : Str} {b : Bool} (c : aExm C c' b K = true) : PySem.W.exmOne K (.ref (He.ga K C)) (.ref (He.ga K c')) = some b := of_decide_eq_true c
theorem aKit_ok {C : Str} {T : PySem.W.Frag → Value} {b : Bool} (c : aKit C T b K = true) : PySem.W.kitOne K (.ref (He.ga K C)) (T K) = some b := of_decide_eq_true c
theorem exLB_ok {C : Addr} {n : Str} (q : exLB K C n = true) : ∃ (nm q' : Str) (N : Addr) (bs bm : List Value) (sn : List Str) (sub : List Value) (ab : Bool) (col : Option Bool) (dd : Option Addr) (k0 k1 k2 k3 k5 : Option Value),
    K.lookup C = some (excClassObj nm q' C N bs bm true sn sub ab col dd k0 k1 k2 k3 k5 "ValueError.__new__") ∧ PySem.HandSPX.refsVE bm = true ∧ (PySem.W.clsIn K C).map (·.name) = some n := by
  unfold exLB at q
  split at q
  · rename_i dd cd sl ho
    have hc : PySem.W.clsIn K C = some cd := by unfold PySem.W.clsIn; rw [ho]
    split at q
    · rename_i C' bm k0 k1 k2 k3 nid k5 hm hs
      simp only [Bool.and_eq_true, beq_iff_eq, Bool.not_eq_true', decide_eq_true_eq] at q
      obtain ⟨rfl, rfl, hdel, hdict, hr, rfl⟩ := q
      rw [hc]
      obtain ⟨nm, bs, mro, ns, qn, hd, sn, sub, ab, col, del⟩ := cd
      dsimp only at hm hdel hdict
      subst hm hdel hdict
      have hsl : sl = #[k0, k1, k2, k3, some (.builtin "ValueError.__new__"), k5] := by
        obtain ⟨l⟩ := sl
        simp only at hs
        rw [hs]
      subst hsl
      exact ⟨nm, qn, ns, bs, bm, sn, sub, ab, col, dd, k0, k1, k2, k3, k5, ho, hr, rfl⟩
    · cases q
  · cases q
theorem aCF_ok {n : Str} (c : aCF n K = true) : CF K n (He.ga K n) := by
  obtain ⟨h1, c⟩ := He.ba c
  obtain ⟨h2, c⟩ := He.ba c
  obtain ⟨h3, c⟩ := He.ba c
  obtain ⟨h4, c⟩ := He.ba c
  obtain ⟨h5, c⟩ := He.ba c
  obtain ⟨h6, c⟩ := He.ba c
  obtain ⟨h7, c⟩ := He.ba c
  obtain ⟨h8, c⟩ := He.ba c
  obtain ⟨h9, c⟩ := He.ba c
  obtain ⟨h10, c⟩ := He.ba c
  obtain ⟨h11, h12⟩ := He.ba c
  obtain ⟨nm, q', N, bs, bm, sn, sub, ab, col, dd, k0, k1, k2, k3, k5, lc, bmv, cn⟩ := exLB_ok h1
  exact ⟨⟨⟨nm, q', N, bs, bm, sn, sub, ab, col, dd, k0, k1, k2, k3, k5, lc, bmv⟩, He.eqO_ok h2, of_decide_eq_true h3, of_decide_eq_true h4, h5⟩, cn, ⟨He.eqO_ok h6, He.eqO_ok h7, of_decide_eq_true h3, h8⟩, ⟨He.eqO_ok h6, He.eqO_ok h7, of_decide_eq_true h3, h8, He.eqO_ok h9, He.eqO_ok h10, of_decide_eq_true h11, of_decide_eq_true h12⟩⟩
structure XFa (K : PySem.W.Frag) (n : Str) (fs : List Str) (file : Str) (qual : Str) (st : Stmt) : Prop where
  c : ∃ cd, PySem.W.clsIn K (He.ga K n) = some cd
  sub : PySem.W.mroIn K (He.ga K n) (.ref (He.ga K n)) = some true
  opq : PySem.W.nsIn K cStatics "thirdparty.any" = some none
  ini : PySem.W.ks_superIn K (He.ga K n) (He.ga K n) "__init__" = some (some (.builtin "ValueError.__init__"))
  ve : PySem.W.subIn K (.ref (He.ga K n)) (.type "ValueError") = some true
  iC : PySem.W.findIn K (.ref (He.ga K n)) "__init__" = some (some (.ref (He.ma K (He.ga K n) "__init__")))
  tI : PySem.W.typeIn K (.ref (He.ma K (He.ga K n) "__init__")) = some (.type "function")
  hsm : PySem.W.nsIn K mainGlobals "super" = some none
  hf : ∀ f ∈ fs, PySem.W.findIn K (.ref (He.ga K n)) f = some none
  lk : ∃ (oc : Value) (od : Option Addr) (dc pm : Value) (an : Option Addr) (cda cc : Addr) (ct : Value) (osl : Array (Option Value)) (ccl : Value) (cdd : Option Addr) (cvs : Array Value) (ccs : Array (Option Value)) (tf : Tok) (cl : Value) (cld : Option Addr) (csl : Array (Option Value)),
    K.lookup (He.ma K (He.ga K n) "__init__") = some ⟨oc, od, .func (PySem.W.fnX "__init__" qual (defArgs st) (defBody st) (defScope st) [("__class__", cc)] .none .none dc pm an (.ref cda) ct), osl⟩ ∧ PySem.W.codeIn K (.ref cda) qual = true ∧ K.lookup cda = some ⟨ccl, cdd, .fields cvs, ccs⟩ ∧ cvs[2]? = some (.str file tf) ∧ K.lookup cc = some ⟨cl, cld, .cell (some (.ref (He.ga K n))), csl⟩
theorem code_of {p : He.Defn} {x qual : Str} {st : Stmt} {fd : FuncData} (F : Fun K x qual st (He.fAd K p) fd) : fd.code = .ref (He.cT K p).1 := by
  obtain ⟨oc, od, kV, doc, pm, an, cdv, ct, osl, rfl, lk, hcd⟩ := F.ex
  obtain ⟨c, rfl⟩ := He.codeIn_ref hcd
  show Value.ref c = .ref (He.codeOf K p)
  rw [He.codeOf_eq lk rfl]
end
end DL
set_option Elab.async false
set_option linter.all false
set_option maxRecDepth 100000
set_option maxHeartbeats 4000000
namespace K25
open PySem PySem.Spec PyProof.Rows L2 DL TW
def tbK (K : W.Frag) : DL.Tb := ⟨[((He.cT K ("law", none)).2, (envOfC "law" (defScope s_law) 0 0 .none).qual ++ "<lambda>")]⟩
theorem all_mk {w : World} {K : W.Frag} {h : Heap} {mg : Str → Option Value} {fa : Addr} (X : K.In h) (G : h.Ns mainGlobals mg) (hfa : mg "law" = some (.ref fa)) (T : Told defs asks tabs h K) :
    ∃ fd : FuncData, OneArgT PySem.Challenge.rw_twobricks_k25_pairs_within_others.prog w K mg 11 fa "_law_script" (letI : DL.Tb := tbK K; liftSp K spLaw) (tabs.map (He.cT K)) fd := by
  letI : DL.Tb := tbK K
  have a_law : W.nsIn K mainGlobals "law" = some (some (.ref (He.ga K "law"))) := aG_ok (T.x 0 _ rfl)
  have e := hfa.symm.trans (W.mg_of X G a_law)
  cases e
  have a_common : W.nsIn K mainGlobals "common" = some (some (.ref (He.ga K "common"))) := aG_ok (T.x 1 _ rfl)
  obtain ⟨fd_common, (F_common : Fun K "common" "common" s_common (He.ga K "common") fd_common)⟩ := T.fn 0 (d := ⟨fun K => He.ga K "common", "common", "common", s_common, []⟩) rfl rfl
  have k_common := F_common.kp
  have b_common := F_common.binds (ps := ["one", "other"]) fun _ _ _ _ _ _ us hl => match us, hl with | [_, _], _ => rfl
  have a_inverse : W.nsIn K mainGlobals "inverse" = some (some (.ref (He.ga K "inverse"))) := aG_ok (T.x 2 _ rfl)
  obtain ⟨fd_inverse, (F_inverse : Fun K "inverse" "inverse" s_inverse (He.ga K "inverse") fd_inverse)⟩ := T.fn 1 (d := ⟨fun K => He.ga K "inverse", "inverse", "inverse", s_inverse, []⟩) rfl rfl
  have k_inverse := F_inverse.kp
  have b_inverse := F_inverse.binds (ps := ["one", "other"]) fun _ _ _ _ _ _ us hl => match us, hl with | [_, _], _ => rfl
  have a_least_times : W.nsIn K mainGlobals "least_times" = some (some (.ref (He.ga K "least_times"))) := aG_ok (T.x 3 _ rfl)
  obtain ⟨fd_least_times, (F_least_times : Fun K "least_times" "least_times" s_least_times (He.ga K "least_times") fd_least_times)⟩ := T.fn 2 (d := ⟨fun K => He.ga K "least_times", "least_times", "least_times", s_least_times, []⟩) rfl rfl
  have k_least_times := F_least_times.kp
  have b_least_times := F_least_times.binds (ps := ["one", "other", "side"]) fun _ _ _ _ _ _ us hl => match us, hl with | [_, _, _], _ => rfl
  have a_rests : W.nsIn K mainGlobals "rests" = some (some (.ref (He.ga K "rests"))) := aG_ok (T.x 4 _ rfl)
  obtain ⟨fd_rests, (F_rests : Fun K "rests" "rests" s_rests (He.ga K "rests") fd_rests)⟩ := T.fn 3 (d := ⟨fun K => He.ga K "rests", "rests", "rests", s_rests, []⟩) rfl rfl
  have k_rests := F_rests.kp
  have b_rests := F_rests.binds (ps := ["brick", "box"]) fun _ _ _ _ _ _ us hl => match us, hl with | [_, _], _ => rfl
  have a_bar_along : W.nsIn K mainGlobals "bar_along" = some (some (.ref (He.ga K "bar_along"))) := aG_ok (T.x 5 _ rfl)
  obtain ⟨fd_bar_along, (F_bar_along : Fun K "bar_along" "bar_along" s_bar_along (He.ga K "bar_along") fd_bar_along)⟩ := T.fn 4 (d := ⟨fun K => He.ga K "bar_along", "bar_along", "bar_along", s_bar_along, []⟩) rfl rfl
  have k_bar_along := F_bar_along.kp
  have b_bar_along := F_bar_along.binds (ps := ["pair", "box", "axis"]) fun _ _ _ _ _ _ us hl => match us, hl with | [_, _, _], _ => rfl
  have a_crossing : W.nsIn K mainGlobals "crossing" = some (some (.ref (He.ga K "crossing"))) := aG_ok (T.x 6 _ rfl)
  obtain ⟨fd_crossing, (F_crossing : Fun K "crossing" "crossing" s_crossing (He.ga K "crossing") fd_crossing)⟩ := T.fn 5 (d := ⟨fun K => He.ga K "crossing", "crossing", "crossing", s_crossing, []⟩) rfl rfl
  have k_crossing := F_crossing.kp
  have b_crossing := F_crossing.binds (ps := ["pair", "box"]) fun _ _ _ _ _ _ us hl => match us, hl with | [_, _], _ => rfl
  have a_paper : W.nsIn K mainGlobals "paper" = some (some (.ref (He.ga K "paper"))) := aG_ok (T.x 7 _ rfl)
  obtain ⟨fd_paper, (F_paper : Fun K "paper" "paper" s_paper (He.ga K "paper") fd_paper)⟩ := T.fn 6 (d := ⟨fun K => He.ga K "paper", "paper", "paper", s_paper, []⟩) rfl rfl
  have k_paper := F_paper.kp
  have b_paper := F_paper.binds (ps := ["pair", "box"]) fun _ _ _ _ _ _ us hl => match us, hl with | [_, _], _ => rfl
  have a_is_filled : W.nsIn K mainGlobals "is_filled" = some (some (.ref (He.ga K "is_filled"))) := aG_ok (T.x 8 _ rfl)
  obtain ⟨fd_is_filled, (F_is_filled : Fun K "is_filled" "is_filled" s_is_filled (He.ga K "is_filled") fd_is_filled)⟩ := T.fn 7 (d := ⟨fun K => He.ga K "is_filled", "is_filled", "is_filled", s_is_filled, []⟩) rfl rfl
  have k_is_filled := F_is_filled.kp
  have b_is_filled := F_is_filled.binds (ps := ["pair", "box"]) fun _ _ _ _ _ _ us hl => match us, hl with | [_, _], _ => rfl
  have a_escape : W.nsIn K mainGlobals "escape" = some (some (.ref (He.ga K "escape"))) := aG_ok (T.x 9 _ rfl)
  obtain ⟨fd_escape, (F_escape : Fun K "escape" "escape" s_escape (He.ga K "escape") fd_escape)⟩ := T.fn 8 (d := ⟨fun K => He.ga K "escape", "escape", "escape", s_escape, []⟩) rfl rfl
  have k_escape := F_escape.kp
  have b_escape := F_escape.binds (ps := ["one", "other"]) fun _ _ _ _ _ _ us hl => match us, hl with | [_, _], _ => rfl
  have a_within : W.nsIn K mainGlobals "within" = some (some (.ref (He.ga K "within"))) := aG_ok (T.x 10 _ rfl)
  obtain ⟨fd_within, (F_within : Fun K "within" "within" s_within (He.ga K "within") fd_within)⟩ := T.fn 9 (d := ⟨fun K => He.ga K "within", "within", "within", s_within, []⟩) rfl rfl
  have k_within := F_within.kp
  have b_within := F_within.binds (ps := ["one", "other"]) fun _ _ _ _ _ _ us hl => match us, hl with | [_, _], _ => rfl
  have a_alike : W.nsIn K mainGlobals "alike" = some (some (.ref (He.ga K "alike"))) := aG_ok (T.x 11 _ rfl)
  obtain ⟨fd_alike, (F_alike : Fun K "alike" "alike" s_alike (He.ga K "alike") fd_alike)⟩ := T.fn 10 (d := ⟨fun K => He.ga K "alike", "alike", "alike", s_alike, []⟩) rfl rfl
  have k_alike := F_alike.kp
  have b_alike := F_alike.binds (ps := ["one", "other"]) fun _ _ _ _ _ _ us hl => match us, hl with | [_, _], _ => rfl
  have a_Ldeck : W.nsIn K mainGlobals "_law_deck" = some (some (.ref (He.ga K "_law_deck"))) := aG_ok (T.x 12 _ rfl)
  obtain ⟨fd_Ldeck, (F_Ldeck : Fun K "_law_deck" "_law_deck" s_Ldeck (He.ga K "_law_deck") fd_Ldeck)⟩ := T.fn 11 (d := ⟨fun K => He.ga K "_law_deck", "_law_deck", "_law_deck", s_Ldeck, []⟩) rfl rfl
  have k_Ldeck := F_Ldeck.kp
  have b_Ldeck := F_Ldeck.binds (ps := ["_law_script"]) fun _ _ _ _ _ _ us hl => match us, hl with | [_], _ => rfl
  have a_Ldraw : W.nsIn K mainGlobals "_law_draw" = some (some (.ref (He.ga K "_law_draw"))) := aG_ok (T.x 13 _ rfl)
  obtain ⟨fd_Ldraw, (F_Ldraw : Fun K "_law_draw" "_law_draw" s_Ldraw (He.ga K "_law_draw") fd_Ldraw)⟩ := T.fn 12 (d := ⟨fun K => He.ga K "_law_draw", "_law_draw", "_law_draw", s_Ldraw, []⟩) rfl rfl
  have k_Ldraw := F_Ldraw.kp
  have b_Ldraw := F_Ldraw.binds (ps := ["_law_deck_here", "_law_many"]) fun _ _ _ _ _ _ us hl => match us, hl with | [_, _], _ => rfl
  have a_Lone : W.nsIn K mainGlobals "_law_one" = some (some (.ref (He.ga K "_law_one"))) := aG_ok (T.x 14 _ rfl)
  obtain ⟨fd_Lone, (F_Lone : Fun K "_law_one" "_law_one" s_Lone (He.ga K "_law_one") fd_Lone)⟩ := T.fn 13 (d := ⟨fun K => He.ga K "_law_one", "_law_one", "_law_one", s_Lone, []⟩) rfl rfl
  have k_Lone := F_Lone.kp
  have b_Lone := F_Lone.binds (ps := ["_law_deck_here", "_law_items"]) fun _ _ _ _ _ _ us hl => match us, hl with | [_, _], _ => rfl
  have a_Lsides : W.nsIn K mainGlobals "_law_sides" = some (some (.ref (He.ga K "_law_sides"))) := aG_ok (T.x 15 _ rfl)
  obtain ⟨fd_Lsides, (F_Lsides : Fun K "_law_sides" "_law_sides" s_Lsides (He.ga K "_law_sides") fd_Lsides)⟩ := T.fn 14 (d := ⟨fun K => He.ga K "_law_sides", "_law_sides", "_law_sides", s_Lsides, []⟩) rfl rfl
  have k_Lsides := F_Lsides.kp
  have b_Lsides := F_Lsides.binds (ps := ["_law_deck_here", "_law_axes", "_law_most"]) fun _ _ _ _ _ _ us hl => match us, hl with | [_, _, _], _ => rfl
  have a_Lpair : W.nsIn K mainGlobals "_law_pair" = some (some (.ref (He.ga K "_law_pair"))) := aG_ok (T.x 16 _ rfl)
  obtain ⟨fd_Lpair, (F_Lpair : Fun K "_law_pair" "_law_pair" s_Lpair (He.ga K "_law_pair") fd_Lpair)⟩ := T.fn 15 (d := ⟨fun K => He.ga K "_law_pair", "_law_pair", "_law_pair", s_Lpair, []⟩) rfl rfl
  have k_Lpair := F_Lpair.kp
  have b_Lpair := F_Lpair.binds (ps := ["_law_deck_here", "_law_axes", "_law_most"]) fun _ _ _ _ _ _ us hl => match us, hl with | [_, _, _], _ => rfl
  have a_Lis_sum : W.nsIn K mainGlobals "_law_is_sum" = some (some (.ref (He.ga K "_law_is_sum"))) := aG_ok (T.x 17 _ rfl)
  obtain ⟨fd_Lis_sum, (F_Lis_sum : Fun K "_law_is_sum" "_law_is_sum" s_Lis_sum (He.ga K "_law_is_sum") fd_Lis_sum)⟩ := T.fn 16 (d := ⟨fun K => He.ga K "_law_is_sum", "_law_is_sum", "_law_is_sum", s_Lis_sum, []⟩) rfl rfl
  have k_Lis_sum := F_Lis_sum.kp
  have b_Lis_sum := F_Lis_sum.binds (ps := ["_law_side", "_law_one_here", "_law_other"]) fun _ _ _ _ _ _ us hl => match us, hl with | [_, _, _], _ => rfl
  have a_Lrests : W.nsIn K mainGlobals "_law_rests" = some (some (.ref (He.ga K "_law_rests"))) := aG_ok (T.x 18 _ rfl)
  obtain ⟨fd_Lrests, (F_Lrests : Fun K "_law_rests" "_law_rests" s_Lrests (He.ga K "_law_rests") fd_Lrests)⟩ := T.fn 17 (d := ⟨fun K => He.ga K "_law_rests", "_law_rests", "_law_rests", s_Lrests, []⟩) rfl rfl
  have k_Lrests := F_Lrests.kp
  have b_Lrests := F_Lrests.binds (ps := ["_law_brick", "_law_box"]) fun _ _ _ _ _ _ us hl => match us, hl with | [_, _], _ => rfl
  have a_Lis_filled : W.nsIn K mainGlobals "_law_is_filled" = some (some (.ref (He.ga K "_law_is_filled"))) := aG_ok (T.x 19 _ rfl)
  obtain ⟨fd_Lis_filled, (F_Lis_filled : Fun K "_law_is_filled" "_law_is_filled" s_Lis_filled (He.ga K "_law_is_filled") fd_Lis_filled)⟩ := T.fn 18 (d := ⟨fun K => He.ga K "_law_is_filled", "_law_is_filled", "_law_is_filled", s_Lis_filled, []⟩) rfl rfl
  have k_Lis_filled := F_Lis_filled.kp
  have b_Lis_filled := F_Lis_filled.binds (ps := ["_law_pair_here", "_law_box"]) fun _ _ _ _ _ _ us hl => match us, hl with | [_, _], _ => rfl
  have a_Ldivisor : W.nsIn K mainGlobals "_law_divisor" = some (some (.ref (He.ga K "_law_divisor"))) := aG_ok (T.x 20 _ rfl)
  obtain ⟨fd_Ldivisor, (F_Ldivisor : Fun K "_law_divisor" "_law_divisor" s_Ldivisor (He.ga K "_law_divisor") fd_Ldivisor)⟩ := T.fn 19 (d := ⟨fun K => He.ga K "_law_divisor", "_law_divisor", "_law_divisor", s_Ldivisor, []⟩) rfl rfl
  have k_Ldivisor := F_Ldivisor.kp
  have b_Ldivisor := F_Ldivisor.binds (ps := ["_law_one_here", "_law_other"]) fun _ _ _ _ _ _ us hl => match us, hl with | [_, _], _ => rfl
  have a_Llcm : W.nsIn K mainGlobals "_law_lcm" = some (some (.ref (He.ga K "_law_lcm"))) := aG_ok (T.x 21 _ rfl)
  obtain ⟨fd_Llcm, (F_Llcm : Fun K "_law_lcm" "_law_lcm" s_Llcm (He.ga K "_law_lcm") fd_Llcm)⟩ := T.fn 20 (d := ⟨fun K => He.ga K "_law_lcm", "_law_lcm", "_law_lcm", s_Llcm, []⟩) rfl rfl
  have k_Llcm := F_Llcm.kp
  have b_Llcm := F_Llcm.binds (ps := ["_law_one_here", "_law_other"]) fun _ _ _ _ _ _ us hl => match us, hl with | [_, _], _ => rfl
  have a_Lcut_box : W.nsIn K mainGlobals "_law_cut_box" = some (some (.ref (He.ga K "_law_cut_box"))) := aG_ok (T.x 22 _ rfl)
  obtain ⟨fd_Lcut_box, (F_Lcut_box : Fun K "_law_cut_box" "_law_cut_box" s_Lcut_box (He.ga K "_law_cut_box") fd_Lcut_box)⟩ := T.fn 21 (d := ⟨fun K => He.ga K "_law_cut_box", "_law_cut_box", "_law_cut_box", s_Lcut_box, []⟩) rfl rfl
  have k_Lcut_box := F_Lcut_box.kp
  have b_Lcut_box := F_Lcut_box.binds (ps := ["_law_deck_here", "_law_pair_here", "_law_many"]) fun _ _ _ _ _ _ us hl => match us, hl with | [_, _, _], _ => rfl
  have a_Lplain_box : W.nsIn K mainGlobals "_law_plain_box" = some (some (.ref (He.ga K "_law_plain_box"))) := aG_ok (T.x 23 _ rfl)
  obtain ⟨fd_Lplain_box, (F_Lplain_box : Fun K "_law_plain_box" "_law_plain_box" s_Lplain_box (He.ga K "_law_plain_box") fd_Lplain_box)⟩ := T.fn 22 (d := ⟨fun K => He.ga K "_law_plain_box", "_law_plain_box", "_law_plain_box", s_Lplain_box, []⟩) rfl rfl
  have k_Lplain_box := F_Lplain_box.kp
  have b_Lplain_box := F_Lplain_box.binds (ps := ["_law_deck_here", "_law_pair_here", "_law_many"]) fun _ _ _ _ _ _ us hl => match us, hl with | [_, _, _], _ => rfl
  have a_Lwith : W.nsIn K mainGlobals "_law_with" = some (some (.ref (He.ga K "_law_with"))) := aG_ok (T.x 24 _ rfl)
  obtain ⟨fd_Lwith, (F_Lwith : Fun K "_law_with" "_law_with" s_Lwith (He.ga K "_law_with") fd_Lwith)⟩ := T.fn 23 (d := ⟨fun K => He.ga K "_law_with", "_law_with", "_law_with", s_Lwith, []⟩) rfl rfl
  have k_Lwith := F_Lwith.kp
  have b_Lwith := F_Lwith.binds (ps := ["_law_sides_here", "_law_axis", "_law_side"]) fun _ _ _ _ _ _ us hl => match us, hl with | [_, _, _], _ => rfl
  have a_Lnear : W.nsIn K mainGlobals "_law_near" = some (some (.ref (He.ga K "_law_near"))) := aG_ok (T.x 25 _ rfl)
  obtain ⟨fd_Lnear, (F_Lnear : Fun K "_law_near" "_law_near" s_Lnear (He.ga K "_law_near") fd_Lnear)⟩ := T.fn 24 (d := ⟨fun K => He.ga K "_law_near", "_law_near", "_law_near", s_Lnear, []⟩) rfl rfl
  have k_Lnear := F_Lnear.kp
  have b_Lnear := F_Lnear.binds (ps := ["_law_deck_here", "_law_pair_here"]) fun _ _ _ _ _ _ us hl => match us, hl with | [_, _], _ => rfl
  have a_Lis_refused : W.nsIn K mainGlobals "_law_is_refused" = some (some (.ref (He.ga K "_law_is_refused"))) := aG_ok (T.x 26 _ rfl)
  obtain ⟨fd_Lis_refused, (F_Lis_refused : Fun K "_law_is_refused" "_law_is_refused" s_Lis_refused (He.ga K "_law_is_refused") fd_Lis_refused)⟩ := T.fn 25 (d := ⟨fun K => He.ga K "_law_is_refused", "_law_is_refused", "_law_is_refused", s_Lis_refused, []⟩) rfl rfl
  have k_Lis_refused := F_Lis_refused.kp
  have b_Lis_refused := F_Lis_refused.binds (ps := ["_law_call"]) fun _ _ _ _ _ _ us hl => match us, hl with | [_], _ => rfl
  obtain ⟨fd_law, (F_law : Fun K "law" "law" s_law (He.ga K "law") fd_law)⟩ := T.fn 26 (d := ⟨fun K => He.ga K "law", "law", "law", s_law, []⟩) rfl rfl
  have k_law := F_law.kp
  have z_enumerate : W.nsIn K mainGlobals "enumerate" = some none := aZ_ok (T.x 27 _ rfl)
  have z_len : W.nsIn K mainGlobals "len" = some none := aZ_ok (T.x 28 _ rfl)
  have z_abs : W.nsIn K mainGlobals "abs" = some none := aZ_ok (T.x 29 _ rfl)
  have z_int : W.nsIn K mainGlobals "int" = some none := aZ_ok (T.x 30 _ rfl)
  have z_range : W.nsIn K mainGlobals "range" = some none := aZ_ok (T.x 31 _ rfl)
  have z_tuple : W.nsIn K mainGlobals "tuple" = some none := aZ_ok (T.x 32 _ rfl)
  have z_list : W.nsIn K mainGlobals "list" = some none := aZ_ok (T.x 33 _ rfl)
  have z_isinstance : W.nsIn K mainGlobals "isinstance" = some none := aZ_ok (T.x 34 _ rfl)
  have z_repr : W.nsIn K mainGlobals "repr" = some none := aZ_ok (T.x 35 _ rfl)
  obtain ⟨t_GAP, v_GAP⟩ := aS_ok X G (x := "GAP") (z := "gap") (T.x 36 _ rfl)
  obtain ⟨t_STEP, v_STEP⟩ := aS_ok X G (x := "STEP") (z := "step") (T.x 37 _ rfl)
  obtain ⟨t_SIDES, v_SIDES⟩ := aS_ok X G (x := "SIDES") (z := "sides") (T.x 38 _ rfl)
  obtain ⟨t_CUT, v_CUT⟩ := aS_ok X G (x := "CUT") (z := "cut") (T.x 39 _ rfl)
  have ac_UnlikeAxes : W.nsIn K mainGlobals "UnlikeAxes" = some (some (.ref (He.ga K "UnlikeAxes"))) := aG_ok (T.x 40 _ rfl)
  have cf_UnlikeAxes : CF K "UnlikeAxes" (He.ga K "UnlikeAxes") := aCF_ok (T.x 41 _ rfl)
  have xc_UnlikeAxes : XC0 K mg [("UnlikeAxes", (He.ga K "UnlikeAxes"))] "UnlikeAxes" := xc0_mk X G (by simp) cf_UnlikeAxes ac_UnlikeAxes (T.x 42 _ rfl)
  have ah_UnlikeAxes : W.nsIn K mainGlobals "UnlikeAxes" = some (some (.ref (He.ga K "UnlikeAxes"))) := aG_ok (T.x 40 _ rfl)
  have ah_BrickError : W.nsIn K mainGlobals "BrickError" = some (some (.ref (He.ga K "BrickError"))) := aG_ok (T.x 43 _ rfl)
  have yc_UnlikeAxes_UnlikeAxes : W.exmOne K (.ref (He.ga K "UnlikeAxes")) (.ref (He.ga K "UnlikeAxes")) = some ((fun _ => true) ("UnlikeAxes" : Str)) := (aExm_ok (b := true) (T.x 44 _ rfl)).trans (congrArg some (by decide +kernel))
  have ic_BrickError_UnlikeAxes : W.kitOne K (.ref (He.ga K "UnlikeAxes")) (.ref (He.ga K "BrickError")) = some true := aKit_ok (T := (fun K => .ref (He.ga K "BrickError"))) (T.x 45 _ rfl)
  have tc_law : fd_law.code = .ref (He.cT K ("law", none)).1 := code_of (p := ("law", none)) F_law
  have tm_law : ((He.cT K ("law", none)).2, (envOfC "law" (defScope s_law) 0 0 .none).qual ++ "<lambda>") ∈ (tbK K).T := (List.Mem.head _)
  have tu_law : ∀ p ∈ (tbK K).T, p.1 = (He.cT K ("law", none)).2 → p.2 = (envOfC "law" (defScope s_law) 0 0 .none).qual ++ "<lambda>" := DL.tu_of (T.x 46 _ rfl)
  have e_law : ∀ (s : Shared) (v : Value), BindsTo s fd_law ⟨[v], []⟩ [("_law_script", v)] := by
    obtain ⟨_, _, kV, _, _, _, _, _, _, rfl, _, _⟩ := F_law.ex
    exact fun s v => .of_eq rfl
  refine ⟨fd_law, e_law, fun base _ _ hT => ?_⟩
  have O_common := ok_common (P := PySem.Challenge.rw_twobricks_k25_pairs_within_others.prog) (w := w) (base := base) (mg := mg) F_common
  have O_inverse := ok_inverse (P := PySem.Challenge.rw_twobricks_k25_pairs_within_others.prog) (w := w) (base := base) (mg := mg) F_inverse
  have O_rests := ok_rests (P := PySem.Challenge.rw_twobricks_k25_pairs_within_others.prog) (w := w) (base := base) (mg := mg) F_rests (W.mg_none_of X G z_enumerate)
  have O_Ldeck := ok_Ldeck (P := PySem.Challenge.rw_twobricks_k25_pairs_within_others.prog) (w := w) (base := base) (mg := mg) F_Ldeck (W.mg_none_of X G z_abs) (W.mg_none_of X G z_len)
  have O_Ldraw := ok_Ldraw (P := PySem.Challenge.rw_twobricks_k25_pairs_within_others.prog) (w := w) (base := base) (mg := mg) F_Ldraw (W.mg_none_of X G z_int) (W.mg_none_of X G z_len)
  have O_Lis_sum := ok_Lis_sum (P := PySem.Challenge.rw_twobricks_k25_pairs_within_others.prog) (w := w) (base := base) (mg := mg) F_Lis_sum (W.mg_none_of X G z_range) (W.mg_none_of X G z_int)
  have O_Lrests := ok_Lrests (P := PySem.Challenge.rw_twobricks_k25_pairs_within_others.prog) (w := w) (base := base) (mg := mg) F_Lrests (W.mg_none_of X G z_len) (W.mg_none_of X G z_range) (W.mg_none_of X G z_int)
  have O_Ldivisor := ok_Ldivisor (P := PySem.Challenge.rw_twobricks_k25_pairs_within_others.prog) (w := w) (base := base) (mg := mg) F_Ldivisor
  have O_Lwith := ok_Lwith (P := PySem.Challenge.rw_twobricks_k25_pairs_within_others.prog) (w := w) (base := base) (mg := mg) F_Lwith
  have O_Lis_refused := ok_Lis_refused (TL := [("UnlikeAxes", (He.ga K "UnlikeAxes"))]) (P := PySem.Challenge.rw_twobricks_k25_pairs_within_others.prog) (w := w) (base := base) (mg := mg) F_Lis_refused (W.mg_none_of X G z_isinstance) (allT_of ⟨cf_UnlikeAxes, trivial⟩) ⟨_, W.mg_of X G ah_UnlikeAxes, allT_of (p := fun n C => W.exmOne K (.ref C) _ = some ((fun _ => true) n)) ⟨yc_UnlikeAxes_UnlikeAxes, trivial⟩⟩ ⟨_, W.mg_of X G ah_BrickError, allT_of (p := fun n C => W.kitOne K (.ref C) _ = some true) ⟨ic_BrickError_UnlikeAxes, trivial⟩⟩
  have O_least_times := ok_least_times (P := PySem.Challenge.rw_twobricks_k25_pairs_within_others.prog) (w := w) (base := base) (mg := mg) F_least_times O_inverse ⟨W.mg_of X G a_inverse, k_inverse, b_inverse⟩ O_common ⟨W.mg_of X G a_common, k_common, b_common⟩
  have O_crossing := ok_crossing (P := PySem.Challenge.rw_twobricks_k25_pairs_within_others.prog) (w := w) (base := base) (mg := mg) F_crossing v_SIDES O_rests ⟨W.mg_of X G a_rests, k_rests, b_rests⟩
  have O_Lone := ok_Lone (P := PySem.Challenge.rw_twobricks_k25_pairs_within_others.prog) (w := w) (base := base) (mg := mg) F_Lone (W.mg_none_of X G z_len) O_Ldraw ⟨W.mg_of X G a_Ldraw, k_Ldraw, b_Ldraw⟩
  have O_Lsides := ok_Lsides (P := PySem.Challenge.rw_twobricks_k25_pairs_within_others.prog) (w := w) (base := base) (mg := mg) F_Lsides (W.mg_none_of X G z_range) (W.mg_none_of X G z_tuple) O_Ldraw ⟨W.mg_of X G a_Ldraw, k_Ldraw, b_Ldraw⟩
  have O_Lis_filled := ok_Lis_filled (P := PySem.Challenge.rw_twobricks_k25_pairs_within_others.prog) (w := w) (base := base) (mg := mg) F_Lis_filled (W.mg_none_of X G z_len) O_Lis_sum ⟨W.mg_of X G a_Lis_sum, k_Lis_sum, b_Lis_sum⟩ O_Lrests ⟨W.mg_of X G a_Lrests, k_Lrests, b_Lrests⟩
  have O_Llcm := ok_Llcm (P := PySem.Challenge.rw_twobricks_k25_pairs_within_others.prog) (w := w) (base := base) (mg := mg) F_Llcm O_Ldivisor ⟨W.mg_of X G a_Ldivisor, k_Ldivisor, b_Ldivisor⟩
  have O_bar_along := ok_bar_along (P := PySem.Challenge.rw_twobricks_k25_pairs_within_others.prog) (w := w) (base := base) (mg := mg) F_bar_along v_GAP v_STEP O_least_times ⟨W.mg_of X G a_least_times, k_least_times, b_least_times⟩
  have O_Lpair := ok_Lpair (P := PySem.Challenge.rw_twobricks_k25_pairs_within_others.prog) (w := w) (base := base) (mg := mg) F_Lpair O_Ldraw ⟨W.mg_of X G a_Ldraw, k_Ldraw, b_Ldraw⟩ O_Lsides ⟨W.mg_of X G a_Lsides, k_Lsides, b_Lsides⟩
  have O_Lcut_box := ok_Lcut_box (P := PySem.Challenge.rw_twobricks_k25_pairs_within_others.prog) (w := w) (base := base) (mg := mg) F_Lcut_box (W.mg_none_of X G z_tuple) (W.mg_none_of X G z_len) (W.mg_none_of X G z_range) O_Ldraw ⟨W.mg_of X G a_Ldraw, k_Ldraw, b_Ldraw⟩ O_Llcm ⟨W.mg_of X G a_Llcm, k_Llcm, b_Llcm⟩
  have O_Lplain_box := ok_Lplain_box (P := PySem.Challenge.rw_twobricks_k25_pairs_within_others.prog) (w := w) (base := base) (mg := mg) F_Lplain_box (W.mg_none_of X G z_tuple) (W.mg_none_of X G z_list) O_Ldraw ⟨W.mg_of X G a_Ldraw, k_Ldraw, b_Ldraw⟩ O_Lone ⟨W.mg_of X G a_Lone, k_Lone, b_Lone⟩
  have O_paper := ok_paper (P := PySem.Challenge.rw_twobricks_k25_pairs_within_others.prog) (w := w) (base := base) (mg := mg) F_paper (W.mg_none_of X G z_enumerate) v_CUT O_least_times ⟨W.mg_of X G a_least_times, k_least_times, b_least_times⟩ O_bar_along ⟨W.mg_of X G a_bar_along, k_bar_along, b_bar_along⟩ O_rests ⟨W.mg_of X G a_rests, k_rests, b_rests⟩ O_crossing ⟨W.mg_of X G a_crossing, k_crossing, b_crossing⟩
  have O_Lnear := ok_Lnear (P := PySem.Challenge.rw_twobricks_k25_pairs_within_others.prog) (w := w) (base := base) (mg := mg) F_Lnear (W.mg_none_of X G z_len) O_Ldraw ⟨W.mg_of X G a_Ldraw, k_Ldraw, b_Ldraw⟩ O_Lplain_box ⟨W.mg_of X G a_Lplain_box, k_Lplain_box, b_Lplain_box⟩ O_Lwith ⟨W.mg_of X G a_Lwith, k_Lwith, b_Lwith⟩ O_Lcut_box ⟨W.mg_of X G a_Lcut_box, k_Lcut_box, b_Lcut_box⟩
  have O_is_filled := ok_is_filled (P := PySem.Challenge.rw_twobricks_k25_pairs_within_others.prog) (w := w) (base := base) (mg := mg) F_is_filled v_CUT O_paper ⟨W.mg_of X G a_paper, k_paper, b_paper⟩
  have O_escape := ok_escape (TL := [("UnlikeAxes", (He.ga K "UnlikeAxes"))]) (P := PySem.Challenge.rw_twobricks_k25_pairs_within_others.prog) (w := w) (base := base) (mg := mg) F_escape (W.mg_none_of X G z_len) O_is_filled ⟨W.mg_of X G a_is_filled, k_is_filled, b_is_filled⟩ xc_UnlikeAxes
  have O_within := ok_within (TL := [("UnlikeAxes", (He.ga K "UnlikeAxes"))]) (P := PySem.Challenge.rw_twobricks_k25_pairs_within_others.prog) (w := w) (base := base) (mg := mg) F_within O_escape ⟨W.mg_of X G a_escape, k_escape, b_escape⟩
  have O_alike := ok_alike (TL := [("UnlikeAxes", (He.ga K "UnlikeAxes"))]) (P := PySem.Challenge.rw_twobricks_k25_pairs_within_others.prog) (w := w) (base := base) (mg := mg) F_alike O_within ⟨W.mg_of X G a_within, k_within, b_within⟩
  have O_law := ok_law (TL := [("UnlikeAxes", (He.ga K "UnlikeAxes"))]) (P := PySem.Challenge.rw_twobricks_k25_pairs_within_others.prog) (w := w) (base := base) (mg := mg) F_law (W.mg_none_of X G z_range) (W.mg_none_of X G z_tuple) (W.mg_none_of X G z_repr) O_alike ⟨W.mg_of X G a_alike, k_alike, b_alike⟩ O_Lis_refused ⟨W.mg_of X G a_Lis_refused, k_Lis_refused, b_Lis_refused⟩ O_escape ⟨W.mg_of X G a_escape, k_escape, b_escape⟩ O_within ⟨W.mg_of X G a_within, k_within, b_within⟩ O_Lis_filled ⟨W.mg_of X G a_Lis_filled, k_Lis_filled, b_Lis_filled⟩ O_Lone ⟨W.mg_of X G a_Lone, k_Lone, b_Lone⟩ O_Lpair ⟨W.mg_of X G a_Lpair, k_Lpair, b_Lpair⟩ O_Lnear ⟨W.mg_of X G a_Lnear, k_Lnear, b_Lnear⟩ O_Ldraw ⟨W.mg_of X G a_Ldraw, k_Ldraw, b_Ldraw⟩ O_Ldeck ⟨W.mg_of X G a_Ldeck, k_Ldeck, b_Ldeck⟩ (hT (He.cT K ("law", none)) (List.mem_map.mpr ⟨_, (List.Mem.head _), rfl⟩)) tc_law tm_law tu_law
  exact O_law
end K25
open PySem PySem.W PyProof.Rows
set_option maxHeartbeats 0 in
theorem PySem.Challenge.cw_twobricks_k25_pairs_within_others_holds : PySem.Challenge.rw_twobricks_k25_pairs_within_others.Holds := by
  w_on; o_law
  refine HandSHeadRun.head_any (r := OpenLaw.row PySem.Challenge.rw_twobricks_k25_pairs_within_others) (q := view (OpenLaw.row PySem.Challenge.rw_twobricks_k25_pairs_within_others).prog [37]) (H := DL.hookF 1500 K25.defs K25.asks K25.tabs) (ob := fun s => DL.obsF 1500 K25.defs K25.asks K25.tabs (HandSHeadRun.getT s)) (M := 30000) (loose := K25.loose) (d := HandSHeadRun.topDef (OpenLaw.row PySem.Challenge.rw_twobricks_k25_pairs_within_others).prog 37) (kwd := []) DL.obsF_eq
    (by kernel_rfl) (fun s => by kernel_rfl) K25.run (by kernel_rfl) (by kernel_rfl) (by kernel_rfl) (by rfl) (by first | assumption | decide +kernel) (by decide +kernel) ⟨rfl, rfl, rfl, rfl, rfl, by decide +kernel⟩ ?hw ?hc
  case hw => w_witness2
  case hc =>
    refine DL.walkF (l := PySem.Challenge.rw_twobricks_k25_pairs_within_others) (n := 63) (k := 11) (x := "_law_script") (sp := fun K => (letI : DL.Tb := K25.tbK K; DL.liftSp K DL.spLaw)) rfl (by decide) (by kernel_rfl) ⟨rfl, by decide, by decide⟩ ?F (fun K H a ns hl hT hS => ?E)
    case F =>
      intro w mg fa h K X T G hmg0
      have e : (HandSHeadRun.topDef (OpenLaw.row PySem.Challenge.rw_twobricks_k25_pairs_within_others).prog 37).name = ("law" : PySem.Str) := by kernel_rfl
      rw [e] at hmg0
      exact K25.all_mk X G hmg0 T
    case E =>
      letI : DL.Tb := K25.tbK K
      exact DL.law_start hS (DL.tabs_of fun p hp => by
        rcases List.mem_cons.mp hp with rfl | hp
        · exact hT ("law", none) (List.Mem.head _)
        exact absurd hp List.not_mem_nil)

