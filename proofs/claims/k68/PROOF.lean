import PyProof.Rows.All
import Wide.All
import OpenK.AllK
import Wide.FinOn
import HandS.ForSpec
import HandS.ForMost
import HandS.IsInst
import HandS.Deep
import HandS.Wide
import HandS.TupAny
import HandS.Zip
import HandS.Style
import HandS.Words
import HandS.Lambda
import HandS.RaiseMore
import HandS.SortInts
import HandS.Walk
import KE.GoesMore
import KE.GoesEnum
import HandS.TupMul
import PyProof.ReprRoads
import PyProof.Rows.IntBool
import KE.SortData
import KE.DataMinMax
import HandS.Conv
import PyProof.Rows.MatchSeqLen
import PyProof.RulesMatchSeq
import HandS.Dict
import KE.LtData
import KE.DataCmp
import PyProof.FactsAll.dict
import PyProof.NeData
import HandS.TryOnly
import PyProof.StrOps2
import HandS.SetKeys
import HandS.Star
import PyProof.AssignAttr
import HandS.TupLen
import HandS.SetFor
import HandS.Strs
import KE.KDictPairs
import KE.KDictSum
import KE.KDictCopyH
import PyProof.TupleOfSeq
import KE.KTupSum
import HandS.Nested
import HandS.EndTab
import KE.KMinKey
import KE.DataMinKey
import HandS.SortKw
import KE.KExcSuper
import HandS.ExcInit
import HandS.ExcField
import HandS.ExcIs
import HandS.ExcOwn
import HandS.Small
import HandS.TryMany
import HandS.WordsExc
import HandS.ExcCtx
import KE.KIsAll
import KE.KTryMore
import PyProof.StrLawsRepr
import PySem.Challenge.RW_twobricks_k68_boxes_cut_down
set_option Elab.async false
set_option linter.all false
set_option maxRecDepth 100000
set_option maxHeartbeats 4000000
namespace DL
open PySem PySem.Spec PyProof.Rows L2

/-- the tables of code objects that lambdas are kept in: (table, the lambda's name) -/
class Tb where
  T : List (Addr × Str)
instance (priority := low) tb0 : Tb := ⟨[]⟩
/-- a number that repr does not show: it marks what stands for an object -/
def markI : Int := 2 ^ 2000
/-- an object of the class n with these attributes, as data that no other value stands for -/
abbrev objD (n : Str) (fs : List (Str × PyData)) : PyData := .dict ((.int markI, .str n) :: fs.map fun p => (.str p.1, p.2))
/-- the class named n is at C, and is none of the built-in ones -/
structure ObjK (K : PySem.W.Frag) (n : Str) (C : Addr) : Prop where
  at_ : PySem.W.nsIn K mainGlobals n = some (some (.ref C))
  ty : ∀ T ∈ ["int", "bool", "str", "tuple", "list", "dict"], PySem.W.kitOne K (.ref C) (.type T) = some false
  cl : Cls K C
  ha : PySem.W.findIn K (.ref C) "__class__" = some (some (.builtin "object.__class__"))
  hn : PySem.W.specialIn K (.builtin "object.__class__") "__get__" = some (some (.builtin "getset_descriptor.__get__"))
  tk : PySem.W.takesIn K (.builtin "object.__class__") = some true
  mr : PySem.W.mroIn K C (.type "object") = some true
/-- a dict's key of integers -/
def keyI (k : List Int) : List Key := k.map fun i => (Sum.inl i : Key)
/-- dicts that change no more, as data: with keys that are numbers, with keys that are tuples of numbers -/
abbrev dKD (kvs : List (Int × PyData)) : PyData := .dict ((.int markI, .bool false) :: kvs.map fun p => (.int p.1, p.2))
abbrev dTD (kvs : List (List Int × PyData)) : PyData := .dict ((.int markI, .bool true) :: kvs.map fun p => (.tuple (p.1.map PyData.int), p.2))
/-- a tuple of numbers, not empty (it may be a dict's key) -/
def numsV (xs : List V) : Bool := !xs.isEmpty && xs.all fun v => match v with | .int _ => true | _ => false
/-- what is known where a tuple stands: of numbers alone, just its items; of any other one its very object, too -/
def tupH (o : Obj) (xs : List V) : HO := if numsV xs = true then .tup xs else .frz o (.tup xs)
/-- a tuple stands there, without a dict of its own -/
def TupAt (G : Hp) (a : Addr) (xs : List V) : Prop := ∃ o : Obj, o.dict = none ∧ G a = some (tupH o xs)
theorem TupAt.mono {G H : Hp} {a : Addr} {xs : List V} (s : Same G H) (h : TupAt G a xs) : TupAt H a xs := by
  obtain ⟨o, d, e⟩ := h
  exact ⟨o, d, s _ _ e⟩
theorem TupAt.sq {K : PySem.W.Frag} {G : Hp} {a : Addr} {xs : List V} (h : TupAt G a xs) : SqT K G a xs := by
  obtain ⟨o, _, e⟩ := h
  unfold tupH at e
  split at e
  · exact SqT.of e
  · exact .inl (.inr ⟨o, e⟩)
theorem TupAt.key {G : Hp} {a : Addr} {xs : List V} (h : TupAt G a xs) (n : numsV xs = true) : G a = some (.tup xs) := by
  obtain ⟨o, _, e⟩ := h
  rwa [tupH, if_pos n] at e
theorem TupAt.obj {G : Hp} {a : Addr} {xs : List V} (h : TupAt G a xs) (n : numsV xs = false) : ∃ o : Obj, o.dict = none ∧ G a = some (.frz o (.tup xs)) := by
  obtain ⟨o, d, e⟩ := h
  rw [tupH, if_neg (by rw [n]; exact Bool.false_ne_true)] at e
  exact ⟨o, d, e⟩
theorem TupAt.two {G : Hp} {a : Addr} {xs : List V} (h : TupAt G a xs) : G a = some (.tup xs) ∨ ∃ o : Obj, o.dict = none ∧ G a = some (.frz o (.tup xs)) := by
  cases n : numsV xs with
  | true => exact .inl (h.key n)
  | false => exact .inr (h.obj n)
theorem tupH_tbl {o : Obj} {xs : List V} : ∀ ps, tupH o xs ≠ .tbl ps := fun ps => by
  unfold tupH
  split <;> exact fun z => (nomatch z)
theorem tupH_ok {P : Program} {w : World} {H : Hp} {h : Heap} {a : Addr} {o : Obj} {n : Nat} {xs : List V} {us : List Value} (e : h.get? a = some o) (c : o.cls = .type "tuple") (d : o.data = .seq us.toArray n) (z : xs.length ≤ sizeLine) (r : Vals xs us) : ObjOk P w H h a (tupH o xs) := by
  unfold tupH
  split
  · exact ⟨z, us, r, o, e, c, n, d⟩
  · exact ⟨e, z, us, r, o, e, c, n, d⟩
abbrev tupO (us : List Value) : Obj := { cls := .type "tuple", data := .seq us.toArray }
mutual
inductive Dn (K : PySem.W.Frag) (G : Hp) : V → PyData → Prop
  | non : Dn K G .non .none
  | bl (b : Bool) : Dn K G (.bl b) (.bool b)
  | int (i : Int) : Dn K G (.int i) (.int i)
  | str (x : Str) : Dn K G (.str x) (.str x)
  | lst {a : Addr} {xs : List V} {ds : List PyData} (h : G a = some (.lst xs)) (t : DnL K G xs ds) : Dn K G (.ref a) (.list ds)
  | tup {a : Addr} {xs : List V} {ds : List PyData} (h : TupAt G a xs) (t : DnL K G xs ds) : Dn K G (.ref a) (.tuple ds)
  | dic {a : Addr} (h : G a = some (.dK [])) (n : a ≠ sysModules) : Dn K G (.ref a) (.dict [])
  | ob {a C dx : Addr} {n : Str} {ws : List (Str × V)} {fs : List (Str × PyData)} (h : G a = some (.ins C dx ws)) (k : ObjK K n C) (e : ws.map (·.1) = fs.map (·.1)) (t : DnL K G (ws.map (·.2)) (fs.map (·.2))) : Dn K G (.ref a) (.dict ((.int markI, .str n) :: fs.map fun p => (.str p.1, p.2)))
  | fK {a : Addr} {o : Obj} {ws : List (Key × V)} {kvs : List (Int × PyData)} (h : G a = some (.frz o (.dK ws))) (e : ws.map (·.1) = kvs.map fun p => (Sum.inl p.1 : Key)) (t : DnL K G (ws.map (·.2)) (kvs.map (·.2))) : Dn K G (.ref a) (.dict ((.int markI, .bool false) :: kvs.map fun p => (.int p.1, p.2)))
  | fT {a : Addr} {o : Obj} {ws : List (List Key × V)} {kvs : List (List Int × PyData)} (h : G a = some (.frz o (.dT ws))) (e : ws.map (·.1) = kvs.map fun p => keyI p.1) (t : DnL K G (ws.map (·.2)) (kvs.map (·.2))) : Dn K G (.ref a) (.dict ((.int markI, .bool true) :: kvs.map fun p => (.tuple (p.1.map PyData.int), p.2)))
inductive DnL (K : PySem.W.Frag) (G : Hp) : List V → List PyData → Prop
  | nil : DnL K G [] []
  | cons {v : V} {vs : List V} {d : PyData} {ds : List PyData} (h : Dn K G v d) (t : DnL K G vs ds) : DnL K G (v :: vs) (d :: ds)
end
theorem sqT_mono {K : PySem.W.Frag} {G H : Hp} {a : Addr} {xs : List V} (s : Same G H) (h : SqT K G a xs) : SqT K H a xs := by
  rcases h with (h | ⟨o, h⟩) | h
  · exact .inl (.inl (s _ _ h))
  · exact .inl (.inr ⟨o, s _ _ h⟩)
  · exact .inr h
mutual
theorem Dn.mono' {K : PySem.W.Frag} {G H : Hp} (s : Same G H) : ∀ {v : V} {d : PyData}, Dn K G v d → Dn K H v d
  | _, _, .non => .non
  | _, _, .bl b => .bl b
  | _, _, .int i => .int i
  | _, _, .str x => .str x
  | _, _, .lst h t => .lst (s _ _ h) (DnL.mono' s t)
  | _, _, .tup h t => .tup (h.mono s) (DnL.mono' s t)
  | _, _, .dic h n => .dic (s _ _ h) n
  | _, _, .ob h k e t => .ob (s _ _ h) k e (DnL.mono' s t)
  | _, _, .fK h e t => .fK (s _ _ h) e (DnL.mono' s t)
  | _, _, .fT h e t => .fT (s _ _ h) e (DnL.mono' s t)
theorem DnL.mono' {K : PySem.W.Frag} {G H : Hp} (s : Same G H) : ∀ {vs : List V} {ds : List PyData}, DnL K G vs ds → DnL K H vs ds
  | _, _, .nil => .nil
  | _, _, .cons a b => .cons (Dn.mono' s a) (DnL.mono' s b)
end
theorem Dn.mono {K : PySem.W.Frag} {G H : Hp} (s : Same G H) {v : V} (d : PyData) (h : Dn K G v d) : Dn K H v d := Dn.mono' s h
theorem DnL.mono {K : PySem.W.Frag} {G H : Hp} (s : Same G H) {vs : List V} (ds : List PyData) (h : DnL K G vs ds) : DnL K H vs ds := DnL.mono' s h
section
variable {K : PySem.W.Frag} {G : Hp}
theorem DnL.len : ∀ {vs : List V} {ds : List PyData}, DnL K G vs ds → vs.length = ds.length
  | _, [], h => by cases h; rfl
  | _, d :: ds, h => by cases h with | cons a b => simp [DnL.len b]
theorem DnL.get : ∀ {vs : List V} {ds : List PyData} {i : Nat} {d : PyData}, DnL K G vs ds → ds[i]? = some d → ∃ v, vs[i]? = some v ∧ Dn K G v d
  | _, [], _, _, h, e => by simp at e
  | _, d :: ds, 0, _, h, e => by
    cases h with
    | cons a b => simp at e; subst e; exact ⟨_, rfl, a⟩
  | _, d :: ds, i + 1, x, h, e => by
    cases h with
    | cons a b =>
      obtain ⟨v, h1, h2⟩ := DnL.get (i := i) b (by simpa using e)
      exact ⟨v, by simpa using h1, h2⟩
theorem DnL.getV : ∀ {vs : List V} {ds : List PyData} {i : Nat} {v : V}, DnL K G vs ds → vs[i]? = some v → ∃ d, ds[i]? = some d ∧ Dn K G v d
  | _, [], _, _, h, e => by cases h; simp at e
  | _, d :: ds, 0, _, h, e => by
    cases h with
    | cons a b => simp at e; subst e; exact ⟨_, rfl, a⟩
  | _, d :: ds, i + 1, x, h, e => by
    cases h with
    | cons a b =>
      obtain ⟨v, h1, h2⟩ := DnL.getV (i := i) b (by simpa using e)
      exact ⟨v, by simpa using h1, h2⟩
theorem DnL.app : ∀ {vs ws : List V} {ds es : List PyData}, DnL K G vs ds → DnL K G ws es → DnL K G (vs ++ ws) (ds ++ es)
  | _, _, [], _, h, h2 => by cases h; exact h2
  | _, _, d :: ds, _, h, h2 => by cases h with | cons a b => exact .cons a (DnL.app b h2)
theorem DnL.take : ∀ {vs : List V} {ds : List PyData} (n : Nat), DnL K G vs ds → DnL K G (vs.take n) (ds.take n)
  | _, _, 0, _ => by simp; exact .nil
  | _, [], n + 1, h => by cases h; simp; exact .nil
  | _, d :: ds, n + 1, h => by cases h with | cons a b => exact .cons a (DnL.take n b)
theorem DnL.drop : ∀ {vs : List V} {ds : List PyData} (n : Nat), DnL K G vs ds → DnL K G (vs.drop n) (ds.drop n)
  | _, _, 0, h => by simpa using h
  | _, [], n + 1, h => by cases h; simp; exact .nil
  | _, d :: ds, n + 1, h => by cases h with | cons a b => exact DnL.drop n b
theorem DnL.set {v : V} {d : PyData} (h : Dn K G v d) : ∀ {vs : List V} {ds : List PyData} (i : Nat), DnL K G vs ds → DnL K G (vs.set i v) (ds.set i d)
  | _, [], _, t => by cases t; exact .nil
  | _, _ :: _, 0, t => by cases t with | cons a b => exact .cons h b
  | _, _ :: _, i + 1, t => by cases t with | cons a b => exact .cons a (DnL.set h i b)
theorem DnL.dropLast {vs : List V} {ds : List PyData} (h : DnL K G vs ds) : DnL K G vs.dropLast ds.dropLast := by
  rw [List.dropLast_eq_take, List.dropLast_eq_take, h.len]
  exact h.take _
theorem DnL.erase : ∀ {vs : List V} {ds : List PyData} (i : Nat), DnL K G vs ds → DnL K G (vs.eraseIdx i) (ds.eraseIdx i)
  | _, [], _, t => by cases t; exact .nil
  | _, _ :: _, 0, t => by cases t with | cons a b => exact b
  | _, _ :: _, i + 1, t => by cases t with | cons a b => exact .cons a (DnL.erase i b)
theorem DnL.ints : ∀ (ns : List Int), DnL K G (ns.map V.int) (ns.map PyData.int)
  | [] => .nil
  | n :: ns => .cons (.int n) (DnL.ints ns)
theorem DnL.toInts : ∀ {vs : List V} {ns : List Int}, DnL K G vs (ns.map PyData.int) → vs = ns.map V.int
  | _, [], h => by cases h; rfl
  | _, n :: ns, h => by
    cases h with
    | cons a b => cases a; rw [DnL.toInts b]; rfl
end

/-- more of what may be one's own: a dict with keys that are numbers; a dict of lists, all one's own; an object with one field that holds a list of one's own -/
inductive GX where
  | oi (a : Addr) (kvs : List (Int × PyData))
  | og (a : Addr) (gs : List (Int × Addr × List PyData))
  | bu (a l : Addr) (n f : Str) (xs : List PyData)
  | b0 (a : Addr) (n : Str)
def GX.fp : GX → List Addr
  | .oi a _ => [a]
  | .og a gs => a :: gs.map (·.2.1)
  | .bu a l _ _ _ => [a, l]
  | .b0 a _ => [a]
def GX.hd : GX → Addr
  | .oi a _ => a
  | .og a _ => a
  | .bu a _ _ _ _ => a
  | .b0 a _ => a
def GX.Ok (K : PySem.W.Frag) (G H : Hp) : GX → Prop
  | .oi a kvs => ∃ ws, H a = some (.dK ws) ∧ ws.map (·.1) = kvs.map (fun p => (Sum.inl p.1 : Key)) ∧ DnL K G (ws.map (·.2)) (kvs.map (·.2))
  | .og a gs => (a :: gs.map (·.2.1)).Nodup ∧ H a = some (.dK (gs.map fun g => ((Sum.inl g.1 : Key), V.ref g.2.1))) ∧ ∀ g ∈ gs, ∃ vs, H g.2.1 = some (.lst vs) ∧ DnL K G vs g.2.2
  | .bu a l n f xs => a ≠ l ∧ ∃ C dx vs, H a = some (.ins C dx [(f, .ref l)]) ∧ ObjK K n C ∧ H l = some (.lst vs) ∧ DnL K G vs xs
  | .b0 a n => ∃ C dx, H a = some (.ins C dx []) ∧ ObjK K n C
/-- what a slot holds: nothing; data that never changes any more; a list of one's own (its address, its items); the deck -/
inductive Cell where
  | em
  | d (x : PyData)
  | ol (a : Addr) (xs : List PyData)
  | dk (a b c : Addr)
  | scr (a : Addr) (ns : List Int)
  | dx (a b c : Addr) (xs : List Int) (n : Int) (ys : List Int)
  | od (a : Addr) (kvs : List (List Int × PyData))
  | xc (a : Addr) (cls : Value) (d : Option Addr) (x : PyData)
  | ob (a : Addr) (n : Str) (fs : List (Str × PyData))
  | fv (a : Addr) (m : Hp)
  | gx (t : GX)
def Cell.fp : Cell → List Addr
  | .ol a _ => [a]
  | .dk a b c => [a, b, c]
  | .dx a b c _ _ _ => [a, b, c]
  | .od a _ => [a]
  | .ob a _ _ => [a]
  | .gx t => t.fp
  | _ => []
/-- a dict whose keys are tuples of integers -/
def DnK (K : PySem.W.Frag) (G : Hp) (ws : List (List Key × V)) (kvs : List (List Int × PyData)) : Prop := ws.map (·.1) = kvs.map (fun p => keyI p.1) ∧ DnL K G (ws.map (·.2)) (kvs.map (·.2))
/-- the deck: the great numbers that are left, all numbers, the count -/
def DeckOk (H : Hp) (a b c : Addr) : Prop := a ≠ b ∧ a ≠ c ∧ b ≠ c ∧ ∃ (n : Int) (xs ys : List Int), H a = some (.lst [.ref b, .ref c, .int n]) ∧ H b = some (.lst (xs.map V.int)) ∧ H c = some (.lst (ys.map V.int)) ∧ ys ≠ [] ∧ ∀ x ∈ xs, 0 ≤ x
def excD (n : Str) (fs : List (Str × PyData)) : PyData := .dict [(.str n, .dict (fs.map fun p => (.str p.1, p.2)))]
/-- an exception's class and dict stand for it -/
def ExcAt (K : PySem.W.Frag) (G : Hp) (cls : Value) (d : Option Addr) (x : PyData) : Prop := ∃ (n : Str) (C : Addr) (fs : List (Str × PyData)), x = excD n fs ∧ cls = .ref C ∧ (PySem.W.clsIn K C).map (·.name) = some n ∧
  ((∃ (dd : Addr) (ws : List (Str × V)), d = some dd ∧ G dd = some (.xd ws) ∧ ws.map (·.1) = fs.map (·.1) ∧ DnL K G (ws.map (·.2)) (fs.map (·.2))) ∨ (fs = [] ∧ d = none))
theorem ExcAt.mono {K : PySem.W.Frag} {G G' : Hp} {cls : Value} {d : Option Addr} {x : PyData} (s : Same G G') (h : ExcAt K G cls d x) : ExcAt K G' cls d x := by
  obtain ⟨n, C, fs, h1, h2, h3, h4⟩ := h
  refine ⟨n, C, fs, h1, h2, h3, ?_⟩
  rcases h4 with ⟨dd, ws, q1, q2, q3, q4⟩ | q
  · exact .inl ⟨dd, ws, q1, s _ _ q2, q3, q4.mono s⟩
  · exact .inr q
def CellOk (K : PySem.W.Frag) (G H : Hp) : Cell → Option V → Prop
  | .em, _ => True
  | .d x, o => ∃ v, o = some v ∧ Dn K G v x
  | .ol a xs, o => o = some (.ref a) ∧ ∃ vs, H a = some (.lst vs) ∧ DnL K G vs xs
  | .dk a b c, o => o = some (.ref a) ∧ DeckOk H a b c
  | .scr a ns, o => o = some (.ref a) ∧ SqL K G a (ns.map V.int)
  | .od a kvs, o => o = some (.ref a) ∧ ∃ ws, H a = some (.dT ws) ∧ DnK K G ws kvs
  | .xc a cls d x, o => o = some (.ref a) ∧ ExcAt K G cls d x
  | .ob a n fs, o => o = some (.ref a) ∧ ∃ C dx ws, H a = some (.ins C dx ws) ∧ ObjK K n C ∧ ws.map (·.1) = fs.map (·.1) ∧ DnL K G (ws.map (·.2)) (fs.map (·.2))
  | .fv a m, o => o = some (.ref a) ∧ Same m G
  | .gx t, o => o = some (.ref t.hd) ∧ t.Ok K G H
  | .dx a b c xs n ys, o => o = some (.ref a) ∧ a ≠ b ∧ a ≠ c ∧ b ≠ c ∧ H a = some (.lst [.ref b, .ref c, .int n]) ∧ H b = some (.lst (xs.map V.int)) ∧ H c = some (.lst (ys.map V.int))

abbrev DS := List Cell
/-- what is neither a table nor a code object -/
def notTE (x : HO) : Prop := (∀ ps, x ≠ .tbl ps) ∧ (∀ f, x ≠ .ext f) ∧ ∀ xs, x ≠ .tup xs
theorem notTE_lst {xs : List V} : notTE (.lst xs) := ⟨fun _ z => (nomatch z), fun _ z => (nomatch z), fun _ z => (nomatch z)⟩
theorem tabs_upd {T : List (Addr × Str)} {H : Hp} {p : Addr} {o : HO} (h : LamX.Tabs T H) (hp : ∀ x, H p = some x → notTE x) : LamX.Tabs T (upd H p o) := fun q hq => by
  obtain ⟨ps, h1, h2, h3⟩ := h q hq
  refine ⟨ps, ?_, h2, fun pos cv hc => ?_⟩
  · rw [upd_ne (fun z => (hp _ (by rw [← z]; exact h1)).1 ps rfl)]; exact h1
  · obtain ⟨c, e1, e2⟩ := h3 pos cv hc
    exact ⟨c, e1, by rw [upd_ne (fun z => (hp _ (by rw [← z]; exact e2)).2.1 _ rfl)]; exact e2⟩
theorem tabs_new {T : List (Addr × Str)} {H : Hp} {p : Addr} {o : HO} (h : LamX.Tabs T H) (hp : H p = none) : LamX.Tabs T (upd H p o) := tabs_upd h fun x e => by rw [hp] at e; cases e
/-- what is kept for others is no table and no code object, what never changes is no table -/
structure NT (B G : Hp) : Prop where
  b : ∀ a o, B a = some o → notTE o
  g : ∀ a o, G a = some o → ∀ ps, o ≠ .tbl ps
variable [Tb]
structure TbOk (B G H : Hp) : Prop where
  t : LamX.Tabs Tb.T H
  n : NT B G
structure Rel (K : PySem.W.Frag) (B G : Hp) (δ : DS) (σ : L2.St) (H : Hp) : Prop where
  len : σ.length = δ.length
  sg : Same G H
  sb : Same B H
  dj : ∀ a, G a = none ∨ B a = none
  ok : ∀ (i : Nat) (c : Cell) (o : Option V), δ[i]? = some c → σ[i]? = some o → CellOk K G H c o
  ap : ∀ (i j : Nat) (c c' : Cell) (a : Addr), δ[i]? = some c → δ[j]? = some c' → a ∈ c.fp → a ∈ c'.fp → i = j
  fr : ∀ (i : Nat) (c : Cell) (a : Addr), δ[i]? = some c → a ∈ c.fp → G a = none ∧ B a = none
  tt : TbOk B G H

omit [Tb] in
theorem NT.updG {B G : Hp} {p : Addr} {o : HO} (n : NT B G) (h : ∀ ps, o ≠ .tbl ps) : NT B (upd G p o) := ⟨n.b, fun a x e => by
  by_cases q : a = p
  · subst q; rw [upd_same] at e; cases e; exact h
  · rw [upd_ne q] at e; exact n.g a x e⟩
omit [Tb] in
theorem NT.updB {B G : Hp} {p : Addr} {o : HO} (n : NT B G) (h : notTE o) : NT (upd B p o) G := ⟨fun a x e => by
  by_cases q : a = p
  · subst q; rw [upd_same] at e; cases e; exact h
  · rw [upd_ne q] at e; exact n.b a x e, n.g⟩
omit [Tb] in
theorem NT.lessB {B B0 G : Hp} (n : NT B G) (h : ∀ a o, B0 a = some o → B a = some o) : NT B0 G := ⟨fun a x e => n.b a x (h a x e), n.g⟩
section
variable {K : PySem.W.Frag} {B G G' H H' : Hp} {δ : DS} {σ : L2.St} {p a : Addr} {o : HO} {i : Nat} {c : Cell}
theorem same_new (h : H p = none) : Same H (upd H p o) := fun b x e => by
  rw [upd_ne (ne_of_none e h)]; exact e
theorem Rel.at (R : Rel K B G δ σ H) (h : δ[i]? = some c) : ∃ o, σ[i]? = some o ∧ CellOk K G H c o := by
  have hi : i < δ.length := (List.getElem?_eq_some_iff.mp h).1
  have hs : i < σ.length := by rw [R.len]; exact hi
  exact ⟨σ[i], List.getElem?_eq_getElem hs, R.ok i c _ h (List.getElem?_eq_getElem hs)⟩
theorem GX.tr {t : GX} (ok : t.Ok K G H) (hp : p ∈ t.fp) : ∃ o, H p = some o ∧ (∀ ps, o ≠ .tbl ps) ∧ (∀ f, o ≠ .ext f) ∧ ∀ xs, o ≠ .tup xs := by
  cases t with
  | oi a kvs =>
    obtain ⟨ws, e, _⟩ := ok
    rw [List.mem_singleton.mp hp]
    exact ⟨_, e, fun _ z => (nomatch z), fun _ z => (nomatch z), fun _ z => (nomatch z)⟩
  | og a gs =>
    obtain ⟨_, e, h⟩ := ok
    rcases List.mem_cons.mp hp with rfl | hp
    · exact ⟨_, e, fun _ z => (nomatch z), fun _ z => (nomatch z), fun _ z => (nomatch z)⟩
    · obtain ⟨g, hg, rfl⟩ := List.mem_map.mp hp
      obtain ⟨vs, e2, _⟩ := h g hg
      exact ⟨_, e2, fun _ z => (nomatch z), fun _ z => (nomatch z), fun _ z => (nomatch z)⟩
  | bu a l n f xs =>
    obtain ⟨_, C, dx, vs, e, _, e2, _⟩ := ok
    rcases List.mem_cons.mp hp with rfl | hp
    · exact ⟨_, e, fun _ z => (nomatch z), fun _ z => (nomatch z), fun _ z => (nomatch z)⟩
    · rw [List.mem_singleton.mp hp]
      exact ⟨_, e2, fun _ z => (nomatch z), fun _ z => (nomatch z), fun _ z => (nomatch z)⟩
  | b0 a n =>
    obtain ⟨C, dx, e, _⟩ := ok
    rw [List.mem_singleton.mp hp]
    exact ⟨_, e, fun _ z => (nomatch z), fun _ z => (nomatch z), fun _ z => (nomatch z)⟩
theorem GX.stay {t : GX} (ok : t.Ok K G H) (sg : Same G G') (hk : ∀ b ∈ t.fp, H' b = H b) : t.Ok K G' H' := by
  cases t with
  | oi a kvs =>
    obtain ⟨ws, e, k, d⟩ := ok
    exact ⟨ws, by rw [hk a (by simp [GX.fp])]; exact e, k, d.mono sg⟩
  | og a gs =>
    obtain ⟨n, e, h⟩ := ok
    refine ⟨n, by rw [hk a (by simp [GX.fp])]; exact e, fun g hg => ?_⟩
    obtain ⟨vs, e2, d⟩ := h g hg
    exact ⟨vs, by rw [hk _ (List.mem_cons_of_mem _ (List.mem_map.mpr ⟨g, hg, rfl⟩))]; exact e2, d.mono sg⟩
  | bu a l n f xs =>
    obtain ⟨n1, C, dx, vs, e, k, e2, d⟩ := ok
    exact ⟨n1, C, dx, vs, by rw [hk a (by simp [GX.fp])]; exact e, k, by rw [hk l (by simp [GX.fp])]; exact e2, d.mono sg⟩
  | b0 a n =>
    obtain ⟨C, dx, e, k⟩ := ok
    exact ⟨C, dx, by rw [hk a (by simp [GX.fp])]; exact e, k⟩
theorem cell_tracked (ok : CellOk K G H c (some (.ref a))) (hc : p ∈ c.fp) : ∃ o, H p = some o := by
  cases c with
  | em => cases hc
  | d x => cases hc
  | ol a xs =>
    obtain ⟨_, vs, e, _⟩ := ok
    rw [List.mem_singleton.mp hc]; exact ⟨_, e⟩
  | dk a b c =>
    obtain ⟨_, _, _, _, n, xs, ys, e1, e2, e3, _⟩ := ok
    simp only [Cell.fp, List.mem_cons, List.not_mem_nil, or_false] at hc
    rcases hc with rfl | rfl | rfl
    · exact ⟨_, e1⟩
    · exact ⟨_, e2⟩
    · exact ⟨_, e3⟩
  | scr a ns => cases hc
  | xc a cls d x => cases hc
  | fv a m => cases hc
  | gx t => obtain ⟨o, e, _⟩ := GX.tr ok.2 hc; exact ⟨o, e⟩
  | ob a n fs =>
    obtain ⟨_, C, dx, ws, e, _⟩ := ok
    rw [List.mem_singleton.mp hc]; exact ⟨_, e⟩
  | od a kvs =>
    obtain ⟨_, ws, e, _⟩ := ok
    rw [List.mem_singleton.mp hc]; exact ⟨_, e⟩
  | dx a b c xs n ys =>
    obtain ⟨_, _, _, _, e1, e2, e3⟩ := ok
    simp only [Cell.fp, List.mem_cons, List.not_mem_nil, or_false] at hc
    rcases hc with rfl | rfl | rfl
    · exact ⟨_, e1⟩
    · exact ⟨_, e2⟩
    · exact ⟨_, e3⟩
theorem cell_tr {o : Option V} (ok : CellOk K G H c o) (hc : p ∈ c.fp) : ∃ o, H p = some o := by
  cases c with
  | em => cases hc
  | d x => cases hc
  | ol a xs => exact cell_tracked (a := a) (by obtain ⟨e, r⟩ := ok; exact ⟨rfl, r⟩) hc
  | dk a b c => exact cell_tracked (K := K) (G := G) (a := a) (by obtain ⟨e, r⟩ := ok; exact ⟨rfl, r⟩) hc
  | scr a ns => cases hc
  | xc a cls d x => cases hc
  | fv a m => cases hc
  | gx t => obtain ⟨o, e, _⟩ := GX.tr ok.2 hc; exact ⟨o, e⟩
  | ob a n fs => exact cell_tracked (K := K) (G := G) (a := a) (by obtain ⟨e, r⟩ := ok; exact ⟨rfl, r⟩) hc
  | od a kvs => exact cell_tracked (K := K) (G := G) (a := a) (by obtain ⟨e, r⟩ := ok; exact ⟨rfl, r⟩) hc
  | dx a b c xs n ys => exact cell_tracked (K := K) (G := G) (a := a) (by obtain ⟨e, r⟩ := ok; exact ⟨rfl, r⟩) hc
theorem notTE_dT {ws : List (List Key × V)} : notTE (.dT ws) := ⟨fun _ z => (nomatch z), fun _ z => (nomatch z), fun _ z => (nomatch z)⟩
theorem notTE_ins {C dx : Addr} {ws : List (Str × V)} : notTE (.ins C dx ws) := ⟨fun _ z => (nomatch z), fun _ z => (nomatch z), fun _ z => (nomatch z)⟩
theorem cell_te {c : Cell} {p : Addr} {o : Option V} (ok : CellOk K G H c o) (hc : p ∈ c.fp) : ∀ x, H p = some x → notTE x := by
  have one : ∀ {y : HO}, H p = some y → notTE y → ∀ x, H p = some x → notTE x := fun {y} e h x e2 => by
    rw [e] at e2
    cases e2
    exact h
  cases c with
  | em => cases hc
  | d x => cases hc
  | ol a xs =>
    obtain ⟨_, vs, e, _⟩ := ok
    rw [List.mem_singleton.mp hc] at one ⊢
    exact one e notTE_lst
  | dk a b c =>
    obtain ⟨_, _, _, _, n, xs, ys, e1, e2, e3, _⟩ := ok
    simp only [Cell.fp, List.mem_cons, List.not_mem_nil, or_false] at hc
    rcases hc with rfl | rfl | rfl
    · exact one e1 notTE_lst
    · exact one e2 notTE_lst
    · exact one e3 notTE_lst
  | scr a ns => cases hc
  | xc a cls d x => cases hc
  | fv a m => cases hc
  | gx t => obtain ⟨o, e, n1, n2⟩ := GX.tr ok.2 hc; exact one e ⟨n1, n2⟩
  | ob a n fs =>
    obtain ⟨_, C, dx, ws, e, _⟩ := ok
    rw [List.mem_singleton.mp hc] at one ⊢
    exact one e notTE_ins
  | od a kvs =>
    obtain ⟨_, ws, e, _⟩ := ok
    rw [List.mem_singleton.mp hc] at one ⊢
    exact one e notTE_dT
  | dx a b c xs n ys =>
    obtain ⟨_, _, _, _, e1, e2, e3⟩ := ok
    simp only [Cell.fp, List.mem_cons, List.not_mem_nil, or_false] at hc
    rcases hc with rfl | rfl | rfl
    · exact one e1 notTE_lst
    · exact one e2 notTE_lst
    · exact one e3 notTE_lst
/-- a cell's content goes along with a change that spares its own objects -/
theorem CellOk.stay {o : Option V} (ok : CellOk K G H c o) (sg : Same G G') (hk : ∀ b ∈ c.fp, H' b = H b) : CellOk K G' H' c o := by
  cases c with
  | em => trivial
  | d x => obtain ⟨v, e, h⟩ := ok; exact ⟨v, e, h.mono sg⟩
  | ol a xs =>
    obtain ⟨e, vs, h, t⟩ := ok
    exact ⟨e, vs, by rw [hk a (by simp [Cell.fp])]; exact h, t.mono sg⟩
  | dk a b c =>
    obtain ⟨e, h1, h2, h3, n, xs, ys, e1, e2, e3, r⟩ := ok
    exact ⟨e, h1, h2, h3, n, xs, ys, by rw [hk a (by simp [Cell.fp])]; exact e1, by rw [hk b (by simp [Cell.fp])]; exact e2, by rw [hk c (by simp [Cell.fp])]; exact e3, r⟩
  | scr a ns => exact ⟨ok.1, sg.seq ok.2⟩
  | fv a m => exact ⟨ok.1, ok.2.trans sg⟩
  | gx t => exact ⟨ok.1, GX.stay ok.2 sg hk⟩
  | xc a cls d x => exact ⟨ok.1, ok.2.mono sg⟩
  | ob a n fs =>
    obtain ⟨e, C, dx, ws, h, k, e2, t⟩ := ok
    exact ⟨e, C, dx, ws, by rw [hk a (by simp [Cell.fp])]; exact h, k, e2, t.mono sg⟩
  | od a kvs =>
    obtain ⟨e, ws, h, t1, t2⟩ := ok
    exact ⟨e, ws, by rw [hk a (by simp [Cell.fp])]; exact h, t1, t2.mono sg⟩
  | dx a b c xs n ys =>
    obtain ⟨e, h1, h2, h3, e1, e2, e3⟩ := ok
    exact ⟨e, h1, h2, h3, by rw [hk a (by simp [Cell.fp])]; exact e1, by rw [hk b (by simp [Cell.fp])]; exact e2, by rw [hk c (by simp [Cell.fp])]; exact e3⟩
theorem Rel.tr (R : Rel K B G δ σ H) (h : δ[i]? = some c) (hc : p ∈ c.fp) : ∃ o, H p = some o := by
  obtain ⟨o, _, ok⟩ := R.at h
  exact cell_tr ok hc
theorem Rel.freeG (R : Rel K B G δ σ H) (h : H p = none) : G p = none := R.sg.free h
theorem Rel.freeB (R : Rel K B G δ σ H) (h : H p = none) : B p = none := R.sb.free h
/-- a new object, laid to what never changes -/
theorem Rel.laid (R : Rel K B G δ σ H) (h : H p = none) (nt : ∀ ps, o ≠ .tbl ps := by exact fun _ z => (nomatch z)) : Rel K B (upd G p o) δ σ (upd H p o) ∧ Same G (upd G p o) := by
  have sG : Same G (upd G p o) := same_new (R.freeG h)
  refine ⟨⟨R.len, fun b x e => ?_, R.sb.trans (same_new h), fun b => ?_, fun i c w e1 e2 => ?_, R.ap, fun i c b e hb => ?_, ⟨tabs_new R.tt.t h, R.tt.n.updG nt⟩⟩, sG⟩
  · by_cases hb : b = p
    · subst hb; rw [upd_same] at e ⊢; exact e
    · rw [upd_ne hb] at e ⊢; exact R.sg _ _ e
  · by_cases hb : b = p
    · subst hb; exact .inr (R.freeB h)
    · rw [upd_ne hb]; exact R.dj b
  · refine (R.ok i c w e1 e2).stay sG fun b hb => ?_
    obtain ⟨x, ex⟩ := R.tr e1 hb
    exact upd_ne (ne_of_none ex h)
  · obtain ⟨x, ex⟩ := R.tr e hb
    obtain ⟨f1, f2⟩ := R.fr i c b e hb
    exact ⟨by rw [upd_ne (ne_of_none ex h)]; exact f1, f2⟩
theorem Rel.laidT (R : Rel K B G δ σ H) (h : H p = none) {o : Obj} {xs : List V} (hd : o.dict = none) : Rel K B (upd G p (tupH o xs)) δ σ (upd H p (tupH o xs)) ∧ Same G (upd G p (tupH o xs)) ∧ TupAt (upd G p (tupH o xs)) p xs := by
  obtain ⟨r, s⟩ := R.laid h tupH_tbl
  exact ⟨r, s, o, hd, upd_same⟩
/-- a tuple that stands there may be looked at -/
theorem Rel.seeT (R : Rel K B G δ σ H) {xs : List V} (h : H p = some (.tup xs)) : ∃ G', Same G G' ∧ Rel K B G' δ σ H ∧ G' p = some (.tup xs) := by
  cases e : G p with
  | some o =>
    have := R.sg _ _ e
    rw [h] at this
    cases this
    exact ⟨G, Same.refl _, R, e⟩
  | none =>
    have bn : B p = none := by
      cases eb : B p with
      | none => rfl
      | some o =>
        have q := R.sb _ _ eb
        rw [h] at q
        cases q
        exact absurd rfl ((R.tt.n.b _ _ eb).2.2 xs)
    have sG : Same G (upd G p (.tup xs)) := same_new e
    refine ⟨_, sG, ⟨R.len, fun b x q => ?_, R.sb, fun b => ?_, fun i c w e1 e2 => (R.ok i c w e1 e2).stay sG fun _ _ => rfl, R.ap, fun i c b q hb => ?_, ⟨R.tt.t, R.tt.n.updG fun _ z => (nomatch z)⟩⟩, upd_same⟩
    · by_cases hb : b = p
      · subst hb; rw [upd_same] at q; cases q; exact h
      · rw [upd_ne hb] at q; exact R.sg _ _ q
    · by_cases hb : b = p
      · subst hb; exact .inr bn
      · rw [upd_ne hb]; exact R.dj b
    · obtain ⟨f1, f2⟩ := R.fr i c b q hb
      have hbp : b ≠ p := fun z => by
        obtain ⟨w, _, ok⟩ := R.at q
        exact absurd rfl ((cell_te ok (z ▸ hb) _ h).2.2 xs)
      exact ⟨by rw [upd_ne hbp]; exact f1, f2⟩
/-- a new object that isn't looked at yet -/
theorem Rel.grow (R : Rel K B G δ σ H) (h : H p = none) : Rel K B G δ σ (upd H p o) := by
  refine ⟨R.len, R.sg.trans (same_new h), R.sb.trans (same_new h), R.dj, fun i c w e1 e2 => ?_, R.ap, R.fr, ⟨tabs_new R.tt.t h, R.tt.n⟩⟩
  refine (R.ok i c w e1 e2).stay (Same.refl _) fun b hb => ?_
  obtain ⟨x, ex⟩ := R.tr e1 hb
  exact upd_ne (ne_of_none ex h)
/-- .. it is set among what is kept for others -/
theorem Rel.growB (R : Rel K B G δ σ H) (h : H p = none) (nt : notTE o := by exact ⟨fun _ z => (nomatch z), fun _ z => (nomatch z), fun _ z => (nomatch z)⟩) : Rel K (upd B p o) G δ σ (upd H p o) := by
  refine ⟨R.len, R.sg.trans (same_new h), fun b x e => ?_, fun b => ?_, fun i c w e1 e2 => ?_, R.ap, fun i c b e hb => ?_, ⟨tabs_new R.tt.t h, R.tt.n.updB nt⟩⟩
  · by_cases hb : b = p
    · subst hb; rw [upd_same] at e ⊢; exact e
    · rw [upd_ne hb] at e ⊢; exact R.sb _ _ e
  · by_cases hb : b = p
    · subst hb; exact .inl (R.freeG h)
    · rw [upd_ne hb]; exact R.dj b
  · refine (R.ok i c w e1 e2).stay (Same.refl _) fun b hb => ?_
    obtain ⟨x, ex⟩ := R.tr e1 hb
    exact upd_ne (ne_of_none ex h)
  · obtain ⟨x, ex⟩ := R.tr e hb
    obtain ⟨f1, f2⟩ := R.fr i c b e hb
    exact ⟨f1, by rw [upd_ne (ne_of_none ex h)]; exact f2⟩
/-- one of those kept for others is changed (by whom it belongs to) -/
theorem Rel.putB (R : Rel K B G δ σ H) {u : HO} (h : B p = some u) (hu : notTE u) (nt : notTE o := by exact ⟨fun _ z => (nomatch z), fun _ z => (nomatch z), fun _ z => (nomatch z)⟩) : Rel K (upd B p o) G δ σ (upd H p o) := by
  have gp : G p = none := by
    rcases R.dj p with e | e
    · exact e
    · rw [h] at e; cases e
  refine ⟨R.len, fun b x e => ?_, fun b x e => ?_, fun b => ?_, fun i c w e1 e2 => ?_, R.ap, fun i c b e hb => ?_, ⟨tabs_upd R.tt.t fun x e => by rw [R.sb _ _ h] at e; cases e; exact hu, R.tt.n.updB nt⟩⟩
  · have hb : b ≠ p := fun z => by rw [z, gp] at e; cases e
    rw [upd_ne hb]; exact R.sg _ _ e
  · by_cases hb : b = p
    · subst hb; rw [upd_same] at e ⊢; exact e
    · rw [upd_ne hb] at e ⊢; exact R.sb _ _ e
  · by_cases hb : b = p
    · subst hb; exact .inl gp
    · rw [upd_ne hb]; exact R.dj b
  · refine (R.ok i c w e1 e2).stay (Same.refl _) fun b hb => upd_ne fun z => ?_
    have := (R.fr i c b e1 hb).2
    rw [z, h] at this; cases this
  · obtain ⟨f1, f2⟩ := R.fr i c b e hb
    refine ⟨f1, ?_⟩
    rw [upd_ne (fun z => by rw [z, h] at f2; cases f2)]; exact f2
/-- what was kept for others and hangs on nobody is now looked at: frozen -/
theorem Rel.takeB (R : Rel K B G δ σ H) {B0 : Hp} (h0 : B0 p = none) (hs : ∀ b, b ≠ p → B0 b = B b) {u : HO} (h : B p = some u) : Rel K B0 (upd G p u) δ σ H ∧ Same G (upd G p u) := by
  have gp : G p = none := by
    rcases R.dj p with e | e
    · exact e
    · rw [h] at e; cases e
  have sG : Same G (upd G p u) := same_new gp
  refine ⟨⟨R.len, fun b x e => ?_, fun b x e => ?_, fun b => ?_, fun i c w e1 e2 => (R.ok i c w e1 e2).stay sG fun _ _ => rfl, R.ap, fun i c b e hb => ?_, ⟨R.tt.t, (R.tt.n.lessB fun b o e => by
    have hb : b ≠ p := fun z => by rw [z, h0] at e; cases e
    rw [hs b hb] at e; exact e).updG (R.tt.n.b _ _ h).1⟩⟩, sG⟩
  · by_cases hb : b = p
    · subst hb; rw [upd_same] at e; cases e; exact R.sb _ _ h
    · rw [upd_ne hb] at e; exact R.sg _ _ e
  · have hb : b ≠ p := fun z => by rw [z, h0] at e; cases e
    rw [hs b hb] at e; exact R.sb _ _ e
  · by_cases hb : b = p
    · subst hb; exact .inr h0
    · rw [upd_ne hb, hs b hb]; exact R.dj b
  · obtain ⟨f1, f2⟩ := R.fr i c b e hb
    have hbp : b ≠ p := fun z => by rw [z, h] at f2; cases f2
    exact ⟨by rw [upd_ne hbp]; exact f1, by rw [hs b hbp]; exact f2⟩
/-- a slot is stored -/
theorem Rel.set {v : V} (R : Rel K B G δ σ H) (ok : CellOk K G H c (some v)) (hn : ∀ a ∈ c.fp, (G a = none ∧ B a = none) ∧ ∀ j c', j ≠ i → δ[j]? = some c' → a ∉ c'.fp) : Rel K B G (δ.set i c) (σ.set i (some v)) H := by
  have get : ∀ {j : Nat} {x : Cell}, (δ.set i c)[j]? = some x → (j = i ∧ x = c) ∨ (j ≠ i ∧ δ[j]? = some x) := fun {j x} e => by
    by_cases hj : j = i
    · subst hj
      rw [List.getElem?_set] at e
      simp only [if_true] at e
      split at e
      · cases e; exact .inl ⟨rfl, rfl⟩
      · cases e
    · rw [List.getElem?_set_ne (Ne.symm hj)] at e; exact .inr ⟨hj, e⟩
  refine ⟨by simp [R.len], R.sg, R.sb, R.dj, fun j x w e1 e2 => ?_, fun j k x y a e1 e2 m1 m2 => ?_, fun j x a e m => ?_, R.tt⟩
  · rcases get e1 with ⟨rfl, rfl⟩ | ⟨hj, e1⟩
    · rw [List.getElem?_set] at e2
      simp only [if_true] at e2
      split at e2
      · cases e2; exact ok
      · cases e2
    · rw [List.getElem?_set_ne (Ne.symm hj)] at e2
      exact R.ok j x w e1 e2
  · rcases get e1 with ⟨h1, h1'⟩ | ⟨h1, e3⟩
    · rcases get e2 with ⟨h2, h2'⟩ | ⟨h2, e4⟩
      · rw [h1, h2]
      · rw [h1'] at m1; exact absurd m2 ((hn a m1).2 k y h2 e4)
    · rcases get e2 with ⟨h2, h2'⟩ | ⟨h2, e4⟩
      · rw [h2'] at m2; exact absurd m1 ((hn a m2).2 j x h1 e3)
      · exact R.ap j k x y a e3 e4 m1 m2
  · rcases get e with ⟨_, rfl⟩ | ⟨_, e⟩
    · exact (hn a m).1
    · exact R.fr j x a e m
theorem Rel.setD {v : V} {x : PyData} (R : Rel K B G δ σ H) (h : Dn K G v x) : Rel K B G (δ.set i (.d x)) (σ.set i (some v)) H :=
  R.set ⟨v, rfl, h⟩ fun a m => by cases m
/-- a slot is forgotten -/
theorem Rel.clear (R : Rel K B G δ σ H) (o : Option V) : Rel K B G (δ.set i .em) (σ.set i o) H := by
  have get : ∀ {j : Nat} {x : Cell}, (δ.set i .em)[j]? = some x → x = .em ∨ (j ≠ i ∧ δ[j]? = some x) := fun {j x} e => by
    by_cases hj : j = i
    · subst hj
      rw [List.getElem?_set] at e
      simp only [if_true] at e
      split at e
      · cases e; exact .inl rfl
      · cases e
    · rw [List.getElem?_set_ne (Ne.symm hj)] at e; exact .inr ⟨hj, e⟩
  refine ⟨by simp [R.len], R.sg, R.sb, R.dj, fun j x w e1 e2 => ?_, fun j k x y a e1 e2 m1 m2 => ?_, fun j x a e m => ?_, R.tt⟩
  · rcases get e1 with rfl | ⟨hj, e1⟩
    · trivial
    · rw [List.getElem?_set_ne (Ne.symm hj)] at e2
      exact R.ok j x w e1 e2
  · rcases get e1 with rfl | ⟨h1, e1⟩
    · cases m1
    · rcases get e2 with rfl | ⟨h2, e2⟩
      · cases m2
      · exact R.ap j k x y a e1 e2 m1 m2
  · rcases get e with rfl | ⟨_, e⟩
    · cases m
    · exact R.fr j x a e m
/-- the cell at i is told otherwise (its value stays) -/
theorem Rel.recell {o : Option V} (R : Rel K B G δ σ H) (hσ : σ[i]? = some o) (ok : CellOk K G H c o) (hn : ∀ a ∈ c.fp, (G a = none ∧ B a = none) ∧ ∀ j c', j ≠ i → δ[j]? = some c' → a ∉ c'.fp) : Rel K B G (δ.set i c) σ H := by
  have hi : i < σ.length := (List.getElem?_eq_some_iff.mp hσ).1
  cases o with
  | some v =>
    have := R.set (i := i) (v := v) ok hn
    have e : σ.set i (some v) = σ := by
      apply List.ext_getElem?
      intro j
      by_cases hj : j = i
      · subst hj; rw [List.getElem?_set_self hi, hσ]
      · rw [List.getElem?_set_ne (Ne.symm hj)]
    rw [e] at this; exact this
  | none =>
    cases c with
    | em =>
      have := R.clear (i := i) none
      have e : σ.set i none = σ := by
        apply List.ext_getElem?
        intro j
        by_cases hj : j = i
        · subst hj; rw [List.getElem?_set_self hi, hσ]
        · rw [List.getElem?_set_ne (Ne.symm hj)]
      rw [e] at this; exact this
    | d x => obtain ⟨v, e, _⟩ := ok; cases e
    | ol a xs => obtain ⟨e, _⟩ := ok; cases e
    | dk a b c => obtain ⟨e, _⟩ := ok; cases e
    | scr a ns => obtain ⟨e, _⟩ := ok; cases e
    | xc a cls d x => obtain ⟨e, _⟩ := ok; cases e
    | ob a n fs => obtain ⟨e, _⟩ := ok; cases e
    | fv a m => obtain ⟨e, _⟩ := ok; cases e
    | gx t => obtain ⟨e, _⟩ := ok; cases e
    | od a kvs => obtain ⟨e, _⟩ := ok; cases e
    | dx a b c xs n ys => obtain ⟨e, _⟩ := ok; cases e
/-- a list of one's own is given away: it never changes any more -/
theorem Rel.freeze {xs : List PyData} (R : Rel K B G δ σ H) (h : δ[i]? = some (.ol a xs)) :
    ∃ vs, H a = some (.lst vs) ∧ DnL K G vs xs ∧ σ[i]? = some (some (.ref a)) ∧ Same G (upd G a (.lst vs)) ∧ Rel K B (upd G a (.lst vs)) (δ.set i (.d (.list xs))) σ H ∧ Dn K (upd G a (.lst vs)) (.ref a) (.list xs) := by
  obtain ⟨o, hσ, rfl, vs, e, t⟩ := R.at h
  obtain ⟨ga, ba⟩ := R.fr i _ a h (by simp [Cell.fp])
  have sG : Same G (upd G a (.lst vs)) := same_new ga
  have dn : Dn K (upd G a (.lst vs)) (.ref a) (.list xs) := .lst upd_same (t.mono sG)
  have hi : i < δ.length := (List.getElem?_eq_some_iff.mp h).1
  have get : ∀ {j : Nat} {x : Cell}, (δ.set i (.d (.list xs)))[j]? = some x → (j = i ∧ x = .d (.list xs)) ∨ (j ≠ i ∧ δ[j]? = some x) := fun {j x} e => by
    by_cases hj : j = i
    · subst hj
      rw [List.getElem?_set_self hi] at e; cases e; exact .inl ⟨rfl, rfl⟩
    · rw [List.getElem?_set_ne (Ne.symm hj)] at e; exact .inr ⟨hj, e⟩
  refine ⟨vs, e, t, hσ, sG, ⟨by simp [R.len], fun b x q => ?_, R.sb, fun b => ?_, fun j x w e1 e2 => ?_, fun j k x y z e1 e2 m1 m2 => ?_, fun j x z e1 m => ?_, ⟨R.tt.t, R.tt.n.updG fun _ z => (nomatch z)⟩⟩, dn⟩
  · by_cases hb : b = a
    · subst hb; rw [upd_same] at q; cases q; exact e
    · rw [upd_ne hb] at q; exact R.sg _ _ q
  · by_cases hb : b = a
    · subst hb; exact .inr ba
    · rw [upd_ne hb]; exact R.dj b
  · rcases get e1 with ⟨rfl, rfl⟩ | ⟨hj, e1⟩
    · rw [hσ] at e2; cases e2; exact ⟨_, rfl, dn⟩
    · exact (R.ok j x w e1 e2).stay sG fun _ _ => rfl
  · rcases get e1 with ⟨_, rfl⟩ | ⟨h1, e1⟩
    · cases m1
    · rcases get e2 with ⟨_, rfl⟩ | ⟨h2, e2⟩
      · cases m2
      · exact R.ap j k x y z e1 e2 m1 m2
  · rcases get e1 with ⟨_, rfl⟩ | ⟨hj, e1⟩
    · cases m
    · obtain ⟨f1, f2⟩ := R.fr j x z e1 m
      refine ⟨?_, f2⟩
      rw [upd_ne (fun q => ?_)]
      · exact f1
      · subst q
        exact hj (R.ap j i x _ z e1 h m (by simp [Cell.fp]))
/-- a list of one's own is changed -/
theorem Rel.write {xs ys : List PyData} {ws : List V} (R : Rel K B G δ σ H) (h : δ[i]? = some (.ol a xs)) (t' : DnL K G ws ys) : Rel K B G (δ.set i (.ol a ys)) σ (upd H a (.lst ws)) := by
  obtain ⟨o, hσ, rfl, vs, e, t⟩ := R.at h
  obtain ⟨ga, ba⟩ := R.fr i _ a h (by simp [Cell.fp])
  have hi : i < δ.length := (List.getElem?_eq_some_iff.mp h).1
  have get : ∀ {j : Nat} {x : Cell}, (δ.set i (.ol a ys))[j]? = some x → (j = i ∧ x = .ol a ys) ∨ (j ≠ i ∧ δ[j]? = some x) := fun {j x} e => by
    by_cases hj : j = i
    · subst hj
      rw [List.getElem?_set_self hi] at e; cases e; exact .inl ⟨rfl, rfl⟩
    · rw [List.getElem?_set_ne (Ne.symm hj)] at e; exact .inr ⟨hj, e⟩
  refine ⟨by simp [R.len], fun b x q => ?_, fun b x q => ?_, R.dj, fun j x w e1 e2 => ?_, fun j k x y z e1 e2 m1 m2 => ?_, fun j x z e1 m => ?_, ⟨tabs_upd R.tt.t fun x e' => by rw [e] at e'; cases e'; exact notTE_lst, R.tt.n⟩⟩
  · rw [upd_ne (fun z => by rw [z, ga] at q; cases q)]; exact R.sg _ _ q
  · rw [upd_ne (fun z => by rw [z, ba] at q; cases q)]; exact R.sb _ _ q
  · rcases get e1 with ⟨rfl, rfl⟩ | ⟨hj, e1⟩
    · rw [hσ] at e2; cases e2; exact ⟨rfl, ws, upd_same, t'⟩
    · refine (R.ok j x w e1 e2).stay (Same.refl _) fun b hb => upd_ne fun q => ?_
      rw [q] at hb
      exact hj (R.ap j i x _ a e1 h hb (by simp [Cell.fp]))
  · rcases get e1 with ⟨h1, rfl⟩ | ⟨h1, e1⟩
    · rcases get e2 with ⟨h2, rfl⟩ | ⟨h2, e2⟩
      · rw [h1, h2]
      · exact h1.trans (R.ap i k _ y z h e2 (by simpa [Cell.fp] using m1) m2)
    · rcases get e2 with ⟨h2, rfl⟩ | ⟨h2, e2⟩
      · exact (R.ap j i x _ z e1 h m1 (by simpa [Cell.fp] using m2)).trans h2.symm
      · exact R.ap j k x y z e1 e2 m1 m2
  · rcases get e1 with ⟨_, rfl⟩ | ⟨hj, e1⟩
    · have : z = a := by simpa [Cell.fp] using m
      subst this; exact ⟨ga, ba⟩
    · exact R.fr j x z e1 m
end
end DL
set_option Elab.async false
set_option linter.all false
set_option maxRecDepth 100000
set_option maxHeartbeats 4000000
namespace DL
open PySem PySem.Spec PyProof.Rows L2
section
variable {X : Cx}
/-- what goes on once a new tuple stands there -/
def NewT (H : Hp) (Q : VK) (xs : List V) : Prop := ∀ p o, o.dict = none → H p = none → Q (.ref p) (upd H p (tupH o xs))
theorem NewT.at {pins : List (Addr × Obj)} {σ : L2.St} {H : Hp} {s : Shared} {Q : VK} {xs : List V} {us : List Value} {k : Nat} (h : NewT H Q xs) (I : Inv X pins σ H s) (z : xs.length ≤ sizeLine) (r : Vals xs us) :
    ∃ (v : V) (H' : Hp), Inv X pins σ H' { s with heap := s.heap.push (tupO us), toks := k } ∧ RelV v (.ref s.heap.objs.size) ∧ Q v H' :=
  ⟨.ref s.heap.objs.size, _, I.laid (fun _ _ => Heap.get?_push_of_some _) (Nat.le_refl _) (tupH_ok (Heap.get?_push_size _ rfl) rfl rfl z r), rfl, h _ _ rfl (I.hok.fresh (Nat.le_refl _))⟩
def tTupC (t : TA) : TE := fun σ H Q => t σ H fun xs H1 => xs.length ≤ sizeLine ∧ NewT H1 Q xs
theorem pe_tupC {es : List Expr} {pos : Pos} {x1} {t : TA} (h : PA X es t) : PE X (.Tuple es x1 pos) (tTupC t) :=
  ⟨fun pins s σ H Q I hq => wpAny_Tuple_spliced (wpAny_mono (h.run pos pins s σ H _ I hq) (fun us s1 ⟨xs, H1, I1, r, z, q⟩ => ⟨by rw [← r.length]; exact z, q.at I1 z r⟩) fun _ _ z => z)⟩
theorem call_tupleC : CallR X (.type "tuple") (fun xs H Q => ∃ p ys, xs = [.ref p] ∧ ((SqL X.K H p ys ∧ NewT H Q ys) ∨ (SqT X.K H p ys ∧ Q (.ref p) H))) := by
  rintro pins s σ H _ us Q I r ⟨p, ys, rfl, ⟨hq, q⟩ | ⟨hq, q⟩⟩
  · obtain _ | ⟨rx, _ | _⟩ := r
    cases rx
    obtain ⟨its, r2, pl, hz⟩ := I.list hq
    refine call_tuple_list pl.isList (fun g keep => q.at (I.kept (t' := s.toks) keep) hz r2) ?_
    have := r2.length
    simp only [List.size_toArray]; omega
  · exact call_tuple_of pins s σ H _ us Q I r ⟨p, ys, rfl, .inr ⟨hq, q⟩⟩
def rCatC (K : PySem.W.Frag) : R2 := fun x y H Q => ∃ a b xs ys, x = .ref a ∧ y = .ref b ∧ SqT K H a xs ∧ SqT K H b ys ∧ xs.length + ys.length ≤ sizeLine ∧
  (xs = [] → Q (.ref b) H) ∧ (xs ≠ [] → ys = [] → Q (.ref a) H) ∧ (xs ≠ [] → ys ≠ [] → NewT H Q (xs ++ ys))
theorem op_catC : OpR X (binaryOp .Add) (rCatC X.K) := by
  rintro pins s σ H _ _ v u Q I rx ry ⟨a, b, xs, ys, rfl, rfl, ha, hb, hz, q0, q1, q2⟩
  by_cases hx : xs = []
  · exact op_catA pins s σ H _ _ v u Q I rx ry ⟨a, b, xs, ys, rfl, rfl, ha, hb, hz, q0, q1, fun n => absurd hx n⟩
  · cases rx; cases ry
    obtain ⟨its, r1, p1, _⟩ := I.tuple ha
    obtain ⟨its2, r2, p2, _⟩ := I.tuple hb
    have l1 := r1.length
    have l2 := r2.length
    exact HT.cat_tup p1 p2 (fun z => hx (r1.nil_iff.mp z)) (fun z => ⟨.ref a, H, I, rfl, q1 hx (r2.nil_iff.mp z)⟩)
      (fun z => (q2 hx fun w => z (r2.nil_iff.mpr w)).at (k := s.toks) I (by rw [List.length_append]; exact hz) (r1.append r2)) (by omega)
def rSlC (K : PySem.W.Frag) : V → Option Int → Option Int → Hp → VK → Prop := fun x lo hi H Q => ∃ a xs, x = .ref a ∧ SqT K H a xs ∧
  (HT.sIx xs.length 0 lo = 0 ∧ HT.sIx xs.length xs.length hi = xs.length → Q (.ref a) H) ∧ (¬ (HT.sIx xs.length 0 lo = 0 ∧ HT.sIx xs.length xs.length hi = xs.length) → NewT H Q (cutV xs lo hi))
theorem sl_tupC : SlR X (rSlC X.K) := by
  rintro pins s σ H _ v vl vu lo hi sl Q I rx hs pl pu ⟨a, xs, rfl, hx, q1, q2⟩
  by_cases hw : HT.sIx xs.length 0 lo = 0 ∧ HT.sIx xs.length xs.length hi = xs.length
  · exact sl_tupA pins s σ H _ v vl vu lo hi sl Q I rx hs pl pu ⟨a, xs, rfl, hx, q1, fun n => absurd hw n⟩
  · cases rx
    obtain ⟨its, r, ht, hz⟩ := I.tuple hx
    have hlen : its.toArray.size = xs.length := by rw [List.size_toArray]; exact r.length.symm
    refine ⟨"tuple", _, PyProof.Rows.slot_tuple_getitem.lookup, ht.typeIs, HT.getItem_tuple_cut ht hs pl pu (by rw [hlen]; exact hw) ?_ (by rw [hlen]; exact hz)⟩
    rw [hlen]
    exact (q2 hw).at (k := s.toks) I (Nat.le_trans (cutV_length xs lo hi) hz) ((r.drop _).take _)
end
end DL
set_option Elab.async false
set_option linter.all false
set_option maxRecDepth 100000
set_option maxHeartbeats 4000000
namespace DL
open PySem PySem.Spec PyProof.Rows L2
variable [Tb]

inductive Opd where
  | d (x : PyData)
  | s (i : Nat)
def OpdOk (K : PySem.W.Frag) (G : Hp) (σ : L2.St) (v : V) : Opd → Prop
  | .d x => Dn K G v x
  | .s i => σ[i]? = some (some v)
inductive OpdsOk (K : PySem.W.Frag) (G : Hp) (σ : L2.St) : List V → List Opd → Prop
  | nil : OpdsOk K G σ [] []
  | cons {v : V} {vs : List V} {o : Opd} {os : List Opd} (h : OpdOk K G σ v o) (t : OpdsOk K G σ vs os) : OpdsOk K G σ (v :: vs) (o :: os)
/-- data, or a list of one's own that is looked at -/
def Bor (K : PySem.W.Frag) (G H : Hp) (v : V) (x : PyData) : Prop := Dn K G v x ∨ ∃ a vs xs, v = .ref a ∧ x = .list xs ∧ H a = some (.lst vs) ∧ DnL K G vs xs
/-- looked at -/
def use (o : Opd) (δ : DS) (k : PyData → Prop) : Prop :=
  match o with
  | .d x => k x
  | .s i => match δ[i]? with
    | some (.d x) => k x
    | some (.ol _ xs) => k (.list xs)
    | _ => False
/-- given away -/
def lk (o : Opd) (δ : DS) (k : PyData → DS → Prop) : Prop :=
  match o with
  | .d x => k x δ
  | .s i => match δ[i]? with
    | some (.d x) => k x δ
    | some (.ol _ xs) => k (.list xs) (δ.set i (.d (.list xs)))
    | _ => False
def useL : List Opd → DS → (List PyData → Prop) → Prop
  | [], _, k => k []
  | o :: os, δ, k => use o δ fun x => useL os δ fun xs => k (x :: xs)
def lkL : List Opd → DS → (List PyData → DS → Prop) → Prop
  | [], δ, k => k [] δ
  | o :: os, δ, k => lk o δ fun x δ1 => lkL os δ1 fun xs δ2 => k (x :: xs) δ2
inductive BorL (K : PySem.W.Frag) (G H : Hp) : List V → List PyData → Prop
  | nil : BorL K G H [] []
  | cons {v : V} {vs : List V} {d : PyData} {ds : List PyData} (h : Bor K G H v d) (t : BorL K G H vs ds) : BorL K G H (v :: vs) (d :: ds)
section
variable {K : PySem.W.Frag} {B G G' H H' : Hp} {δ δ' : DS} {σ : L2.St} {v : V} {o : Opd} {x : PyData}
theorem OpdOk.mono (s : Same G G') (h : OpdOk K G σ v o) : OpdOk K G' σ v o := by
  cases o with
  | d x => exact Dn.mono s x h
  | s i => exact h
theorem OpdsOk.mono (s : Same G G') : ∀ {vs : List V} {os : List Opd}, OpdsOk K G σ vs os → OpdsOk K G' σ vs os
  | _, [], h => by cases h; exact .nil
  | _, o :: os, h => by cases h with | cons a b => exact .cons (a.mono s) (OpdsOk.mono s b)
theorem Bor.dn (R : Rel K B G δ σ H) (h : Bor K G H v x) : Dn K H v x := by
  rcases h with h | ⟨a, vs, xs, rfl, rfl, e, t⟩
  · exact h.mono R.sg
  · exact .lst e (t.mono R.sg)
theorem use_ok {k : PyData → Prop} (R : Rel K B G δ σ H) (ok : OpdOk K G σ v o) (h : use o δ k) : ∃ x, k x ∧ Bor K G H v x := by
  cases o with
  | d x => exact ⟨x, h, .inl ok⟩
  | s i =>
    have ok : σ[i]? = some (some v) := ok
    unfold use at h
    simp only at h
    cases e : δ[i]? with
    | none => rw [e] at h; exact h.elim
    | some c =>
      rw [e] at h
      obtain ⟨w, hw, co⟩ := R.at e
      rw [ok] at hw; cases hw
      cases c with
      | em => exact h.elim
      | dk a b c => exact h.elim
      | scr a ns => exact h.elim
      | xc a cls d x => exact h.elim
      | ob a n fs => exact h.elim
      | fv a m => exact h.elim
      | gx t => exact h.elim
      | od a kvs => exact h.elim
      | dx a b c xs n ys => exact h.elim
      | d x =>
        obtain ⟨v', e', q⟩ := co
        cases e'
        exact ⟨x, h, .inl q⟩
      | ol a xs =>
        obtain ⟨e', vs, q, t⟩ := co
        cases e'
        exact ⟨_, h, .inr ⟨a, vs, xs, rfl, rfl, q, t⟩⟩
theorem lk_ok {k : PyData → DS → Prop} (R : Rel K B G δ σ H) (ok : OpdOk K G σ v o) (h : lk o δ k) : ∃ G' δ' x, k x δ' ∧ Same G G' ∧ Rel K B G' δ' σ H ∧ Dn K G' v x := by
  cases o with
  | d x => exact ⟨G, δ, x, h, Same.refl _, R, ok⟩
  | s i =>
    have ok : σ[i]? = some (some v) := ok
    unfold lk at h
    simp only at h
    cases e : δ[i]? with
    | none => rw [e] at h; exact h.elim
    | some c =>
      rw [e] at h
      cases c with
      | em => exact h.elim
      | dk a b c => exact h.elim
      | scr a ns => exact h.elim
      | xc a cls d x => exact h.elim
      | ob a n fs => exact h.elim
      | fv a m => exact h.elim
      | gx t => exact h.elim
      | od a kvs => exact h.elim
      | dx a b c xs n ys => exact h.elim
      | d x =>
        obtain ⟨w, hw, co⟩ := R.at e
        rw [ok] at hw; cases hw
        obtain ⟨v', e', q⟩ := co
        cases e'
        exact ⟨G, δ, x, h, Same.refl _, R, q⟩
      | ol a xs =>
        obtain ⟨vs, q1, q2, q3, q4, q5, q6⟩ := R.freeze e
        rw [ok] at q3; cases q3
        exact ⟨_, _, _, h, q4, q5, q6⟩
theorem useL_ok (R : Rel K B G δ σ H) : ∀ {vs : List V} {os : List Opd} {k : List PyData → Prop}, OpdsOk K G σ vs os → useL os δ k → ∃ xs, k xs ∧ BorL K G H vs xs
  | _, [], _, h, q => by cases h; exact ⟨[], q, .nil⟩
  | _, o :: os, k, h, q => by
    cases h with
    | cons a b =>
      obtain ⟨x, q1, b1⟩ := use_ok R a q
      obtain ⟨xs, q2, b2⟩ := useL_ok R b q1
      exact ⟨x :: xs, q2, .cons b1 b2⟩
theorem lkL_ok : ∀ {vs : List V} {os : List Opd} {G : Hp} {δ : DS} {k : List PyData → DS → Prop}, Rel K B G δ σ H → OpdsOk K G σ vs os → lkL os δ k → ∃ G' δ' xs, k xs δ' ∧ Same G G' ∧ Rel K B G' δ' σ H ∧ DnL K G' vs xs
  | _, [], G, δ, _, R, h, q => by cases h; exact ⟨G, δ, [], q, Same.refl _, R, .nil⟩
  | _, o :: os, G, δ, k, R, h, q => by
    cases h with
    | cons a b =>
      obtain ⟨G1, δ1, x, q1, s1, R1, d1⟩ := lk_ok R a q
      obtain ⟨G2, δ2, xs, q2, s2, R2, d2⟩ := lkL_ok R1 (b.mono s1) q1
      exact ⟨G2, δ2, x :: xs, q2, s1.trans s2, R2, .cons (d1.mono s2) d2⟩
end

abbrev DE := DS → (Opd → DS → Prop) → Prop
abbrev DT := DS → (Bool → DS → Prop) → Prop
abbrev DA := DS → (List Opd → DS → Prop) → Prop
abbrev DL := DS → (List PyData → DS → Prop) → Prop
def up (K : PySem.W.Frag) (w : DE) : TE := fun σ H Q => ∃ B G δ R, Rel K B G δ σ H ∧ w δ R ∧ ∀ v H' G' o δ', R o δ' → Same G G' → Rel K B G' δ' σ H' → OpdOk K G' σ v o → Q v H'
def upT (K : PySem.W.Frag) (w : DT) : TT := fun σ H Q => ∃ B G δ R, Rel K B G δ σ H ∧ w δ R ∧ ∀ b H' G' δ', R b δ' → Same G G' → Rel K B G' δ' σ H' → Q b H'
def upA (K : PySem.W.Frag) (w : DA) : TA := fun σ H Q => ∃ B G δ R, Rel K B G δ σ H ∧ w δ R ∧ ∀ vs H' G' os δ', R os δ' → Same G G' → Rel K B G' δ' σ H' → OpdsOk K G' σ vs os → Q vs H'
/-- a fresh list, in nobody's hands yet -/
def upL (K : PySem.W.Frag) (w : DL) : TE := fun σ H Q => ∃ B G δ R, Rel K B G δ σ H ∧ w δ R ∧ ∀ a vs H' G' xs δ', R xs δ' → Same G G' → Rel K (upd B a (.lst vs)) G' δ' σ H' → B a = none → DnL K G' vs xs → Q (.ref a) H'
abbrev JE (X : Cx) (e : Expr) (w : DE) : Prop := PE X e (up X.K w)
abbrev JT (X : Cx) (e : Expr) (w : DT) : Prop := PT X e (upT X.K w)
abbrev JW (X : Cx) (e : Expr) (w : DT) : Prop := PW X e (upT X.K w)
abbrev JA (X : Cx) (es : List Expr) (w : DA) : Prop := PA X es (upA X.K w)
abbrev JL (X : Cx) (e : Expr) (w : DL) : Prop := PE X e (upL X.K w)
section
variable {X : Cx} {e a b c : Expr} {es : List Expr} {pos : Pos}
theorem pe_le {t t' : TE} (h : PE X e t) (l : ∀ pins s σ H Q, Inv X pins σ H s → t' σ H Q → t σ H Q) : PE X e t' := ⟨fun pins s σ H Q I q => h.run pins s σ H Q I (l pins s σ H Q I q)⟩
theorem pt_le {t t' : TT} (h : PT X e t) (l : ∀ pins s σ H Q, Inv X pins σ H s → t' σ H Q → t σ H Q) : PT X e t' := ⟨fun pins s σ H Q I q => h.run pins s σ H Q I (l pins s σ H Q I q)⟩
theorem pw_le {t t' : TT} (h : PW X e t) (l : ∀ pins s σ H Q, Inv X pins σ H s → t' σ H Q → t σ H Q) : PW X e t' := ⟨fun wh pins s σ H Q I q => h.run wh pins s σ H Q I (l pins s σ H Q I q)⟩
theorem pa_le {t t' : TA} (h : PA X es t) (l : ∀ pins s σ H Q, Inv X pins σ H s → t' σ H Q → t σ H Q) : PA X es t' := ⟨fun pos pins s σ H Q I q => h.run pos pins s σ H Q I (l pins s σ H Q I q)⟩
/-- a fresh list is given away at once -/
def wOfL (w : DL) : DE := fun δ R => w δ fun xs δ' => R (.d (.list xs)) δ'
theorem je_ofL {w : DL} (h : JL X e w) : JE X e (wOfL w) := pe_le h fun pins s σ H Q I ⟨B, G, δ, R, rel, hw, k⟩ => by
  refine ⟨B, G, δ, _, rel, hw, fun a vs H' G' xs δ' r sG rel' hB t => ?_⟩
  obtain ⟨rel2, s2⟩ := rel'.takeB (p := a) hB (fun b hb => (upd_ne hb).symm) upd_same
  exact k _ H' _ _ _ r (sG.trans s2) rel2 (Dn.lst upd_same (t.mono s2))

def wVar (i : Nat) : DE := fun δ R => match δ[i]? with
  | some (.d x) => R (.d x) δ
  | some .em => False
  | none => False
  | _ => R (.s i) δ
theorem je_var {i : Nat} {x : Str} (h : PE X (.Name x pos) (tVar i)) : JE X (.Name x pos) (wVar i) := pe_le h fun pins s σ H Q I ⟨B, G, δ, R, rel, hw, k⟩ => by
  unfold wVar at hw
  cases e : δ[i]? with
  | none => rw [e] at hw; exact hw.elim
  | some c =>
    rw [e] at hw
    obtain ⟨w, hw', co⟩ := rel.at e
    cases c with
    | em => exact hw.elim
    | d x =>
      obtain ⟨v, rfl, q⟩ := co
      exact ⟨v, hw', k v H G _ _ hw (Same.refl _) rel q⟩
    | ol a xs =>
      obtain ⟨rfl, _⟩ := co
      exact ⟨_, hw', k _ H G _ _ hw (Same.refl _) rel hw'⟩
    | dk a b c =>
      obtain ⟨rfl, _⟩ := co
      exact ⟨_, hw', k _ H G _ _ hw (Same.refl _) rel hw'⟩
    | ob a n fs =>
      obtain ⟨rfl, _⟩ := co
      exact ⟨_, hw', k _ H G _ _ hw (Same.refl _) rel hw'⟩
    | fv a m =>
      obtain ⟨rfl, _⟩ := co
      exact ⟨_, hw', k _ H G _ _ hw (Same.refl _) rel hw'⟩
    | gx t =>
      obtain ⟨rfl, _⟩ := co
      exact ⟨_, hw', k _ H G _ _ hw (Same.refl _) rel hw'⟩
    | xc a cls d x =>
      obtain ⟨rfl, _⟩ := co
      exact ⟨_, hw', k _ H G _ _ hw (Same.refl _) rel hw'⟩
    | scr a ns =>
      obtain ⟨rfl, _⟩ := co
      exact ⟨_, hw', k _ H G _ _ hw (Same.refl _) rel hw'⟩
    | od a kvs =>
      obtain ⟨rfl, _⟩ := co
      exact ⟨_, hw', k _ H G _ _ hw (Same.refl _) rel hw'⟩
    | dx a b c xs n ys =>
      obtain ⟨rfl, _⟩ := co
      exact ⟨_, hw', k _ H G _ _ hw (Same.refl _) rel hw'⟩
def wC (x : PyData) : DE := fun δ R => R (.d x) δ
theorem je_c {v : V} {x : PyData} (h : PE X e (tC v)) (hv : ∀ K G, Dn K G v x) : JE X e (wC x) := pe_le h fun pins s σ H Q I ⟨B, G, δ, R, rel, hw, k⟩ => k v H G _ _ hw (Same.refl _) rel (hv _ _)
theorem je_int {i j} : JE X (.Constant (.int i) j pos) (wC (.int i)) := je_c pe_int fun _ _ => .int i
theorem je_str {i j} : JE X (.Constant (.str i) j pos) (wC (.str i)) := je_c pe_str fun _ _ => .str i
theorem je_bl {i j} : JE X (.Constant (.bool i) j pos) (wC (.bool i)) := je_c pe_bl fun _ _ => .bl i
theorem je_non {j} : JE X (.Constant .none j pos) (wC .none) := je_c pe_non fun _ _ => .non

def wNil : DA := fun δ R => R [] δ
def wCons (w : DE) (r : DA) : DA := fun δ R => w δ fun o δ1 => r δ1 fun os δ2 => R (o :: os) δ2
theorem ja_nil : JA X [] wNil := pa_le pa_nil fun pins s σ H Q I ⟨B, G, δ, R, rel, hw, k⟩ => k [] H G _ _ hw (Same.refl _) rel .nil
theorem ja_cons {w : DE} {r : DA} (ha : JE X e w) (hr : JA X es r) (hs : starEach (e :: es) X.env = (false, eval e X.env) :: starEach es X.env := by rfl) : JA X (e :: es) (wCons w r) :=
  pa_le (pa_cons ha hr hs) fun pins s σ H Q I ⟨B, G, δ, R, rel, hw, k⟩ =>
    ⟨B, G, δ, _, rel, hw, fun v H1 G1 o δ1 r1 s1 rel1 ok1 => ⟨B, G1, δ1, _, rel1, r1, fun vs H2 G2 os δ2 r2 s2 rel2 ok2 => k (v :: vs) H2 G2 _ _ r2 (s1.trans s2) rel2 (.cons (ok1.mono s2) ok2)⟩⟩

abbrev P2 := PyData → PyData → (PyData → Prop) → Prop
abbrev PN := List PyData → (PyData → Prop) → Prop
def rOf (K : PySem.W.Frag) (p : P2) : R2 := fun x y H Q => ∃ B G δ σ dx dy R, Rel K B G δ σ H ∧ Bor K G H x dx ∧ Bor K G H y dy ∧ p dx dy R ∧ ∀ v H' G' z, R z → Same G G' → Rel K B G' δ σ H' → Dn K G' v z → Q v H'
abbrev OpD (X : Cx) (f : Value → Value → Sem Value) (p : P2) : Prop := OpR X f (rOf X.K p)
def wOp (p : P2) (wa wb : DE) : DE := fun δ R => wa δ fun o1 δ1 => wb δ1 fun o2 δ2 => use o1 δ2 fun x => use o2 δ2 fun y => p x y fun z => R (.d z) δ2
theorem op_up {p : P2} {wa wb : DE} {K : PySem.W.Frag} {σ : L2.St} {H : Hp} {Q : VK} (h : up K (wOp p wa wb) σ H Q) : tOp (rOf K p) (up K wa) (up K wb) σ H Q := by
  obtain ⟨B, G, δ, R, rel, hw, k⟩ := h
  refine ⟨B, G, δ, _, rel, hw, fun v H1 G1 o1 δ1 r1 s1 rel1 ok1 => ⟨B, G1, δ1, _, rel1, r1, fun u H2 G2 o2 δ2 r2 s2 rel2 ok2 => ?_⟩⟩
  obtain ⟨x, q1, b1⟩ := use_ok rel2 (ok1.mono s2) r2
  obtain ⟨y, q2, b2⟩ := use_ok rel2 ok2 q1
  exact ⟨B, G2, δ2, σ, x, y, _, rel2, b1, b2, q2, fun v' H' G' z rz s3 rel3 dz => k v' H' G' _ _ rz (s1.trans (s2.trans s3)) rel3 dz⟩
theorem je_op {p : P2} {op : Operator} {wa wb : DE} (ho : OpD X (binaryOp op) p) (ha : JE X a wa) (hb : JE X b wb) : JE X (.BinOp a op b pos) (wOp p wa wb) :=
  pe_le (pe_op ho ha hb) fun _ _ _ _ _ _ h => op_up h
theorem je_cmp {p : P2} {op : CmpOp} {wa wb : DE} (ho : OpD X (compareOp op) p) (ha : JE X a wa) (hb : JE X b wb) (hm : behindInMarks op b = false := by rfl) : JE X (.Compare a [op] [b] pos) (wOp p wa wb) :=
  pe_le (pe_cmpR ho ha hb hm) fun _ _ _ _ _ _ h => op_up h
/-- a test by a value that is True or False -/
def wB (w : DE) : DT := fun δ R => w δ fun o δ1 => use o δ1 fun x => ∃ b, x = .bool b ∧ R b δ1
theorem dn_bool {K : PySem.W.Frag} {G : Hp} {v : V} {b : Bool} (h : Dn K G v (.bool b)) : v = .bl b := by cases h; rfl
theorem dn_int {K : PySem.W.Frag} {G : Hp} {v : V} {b : Int} (h : Dn K G v (.int b)) : v = .int b := by cases h; rfl
theorem dn_str {K : PySem.W.Frag} {G : Hp} {v : V} {b : Str} (h : Dn K G v (.str b)) : v = .str b := by cases h; rfl
theorem dn_none {K : PySem.W.Frag} {G : Hp} {v : V} (h : Dn K G v .none) : v = .non := by cases h; rfl
theorem bor_bool {K : PySem.W.Frag} {G H : Hp} {v : V} {b : Bool} (h : Bor K G H v (.bool b)) : v = .bl b := by
  rcases h with h | ⟨_, _, _, _, e, _⟩
  · exact dn_bool h
  · cases e
theorem bor_int {K : PySem.W.Frag} {G H : Hp} {v : V} {b : Int} (h : Bor K G H v (.int b)) : v = .int b := by
  rcases h with h | ⟨_, _, _, _, e, _⟩
  · exact dn_int h
  · cases e
theorem bor_str {K : PySem.W.Frag} {G H : Hp} {v : V} {b : Str} (h : Bor K G H v (.str b)) : v = .str b := by
  rcases h with h | ⟨_, _, _, _, e, _⟩
  · exact dn_str h
  · cases e
theorem bor_none {K : PySem.W.Frag} {G H : Hp} {v : V} (h : Bor K G H v .none) : v = .non := by
  rcases h with h | ⟨_, _, _, _, e, _⟩
  · exact dn_none h
  · cases e
theorem bor_tup {K : PySem.W.Frag} {G H : Hp} {v : V} {ds : List PyData} (h : Bor K G H v (.tuple ds)) : ∃ a vs, v = .ref a ∧ SqT K G a vs ∧ DnL K G vs ds := by
  rcases h with h | ⟨_, _, _, _, e, _⟩
  · cases h with | tup h t => exact ⟨_, _, rfl, h.sq, t⟩
  · cases e
theorem bor_tupS {K : PySem.W.Frag} {G H : Hp} {v : V} {ds : List PyData} (h : Bor K G H v (.tuple ds)) : ∃ a vs, v = .ref a ∧ TupAt G a vs ∧ DnL K G vs ds := by
  rcases h with h | ⟨_, _, _, _, e, _⟩
  · cases h with | tup h t => exact ⟨_, _, rfl, h, t⟩
  · cases e
/-- a list: its items stand for what never changes; it can be read where the heap stands now -/
theorem bor_lst {K : PySem.W.Frag} {B G H : Hp} {δ : DS} {σ : L2.St} {v : V} {ds : List PyData} (R : Rel K B G δ σ H) (h : Bor K G H v (.list ds)) : ∃ a vs, v = .ref a ∧ H a = some (.lst vs) ∧ DnL K G vs ds := by
  rcases h with h | ⟨a, vs, xs, rfl, e, q, t⟩
  · cases h with | lst h t => exact ⟨_, _, rfl, R.sg _ _ h, t⟩
  · cases e; exact ⟨a, vs, rfl, q, t⟩
theorem b_up {w : DE} {K : PySem.W.Frag} {σ : L2.St} {H : Hp} {Q : Bool → Hp → Prop} (h : upT K (wB w) σ H Q) : up K w σ H fun x H1 => ∃ c, x = .bl c ∧ Q c H1 := by
  obtain ⟨B, G, δ, R, rel, hw, k⟩ := h
  refine ⟨B, G, δ, _, rel, hw, fun v H1 G1 o1 δ1 r1 s1 rel1 ok1 => ?_⟩
  obtain ⟨x, ⟨b, rfl, q⟩, b1⟩ := use_ok rel1 ok1 r1
  exact ⟨b, bor_bool b1, k b H1 G1 _ q s1 rel1⟩
theorem jt_val {w : DE} (h : JE X e w) (he : ∀ whole, isTrue e X.env whole = (do let v ← whole; standAt e.pos; holding [v] (truthy v)) := by intro _; rfl) : JT X e (wB w) :=
  pt_le (pt_val h he) fun _ _ _ _ _ _ h => b_up h
theorem jt_cmp {p : P2} {op : CmpOp} {wa wb : DE} (ho : OpD X (compareOp op) p) (ha : JE X a wa) (hb : JE X b wb) (hm : behindInMarks op b = false := by rfl) : JT X (.Compare a [op] [b] pos) (wB (wOp p wa wb)) :=
  pt_le (pt_cmpR ho ha hb hm) fun _ _ _ _ _ _ h => by
    have h2 := b_up h
    exact op_up h2
def wChain (p q : P2) (wa wb wc : DE) : DE := fun δ R => wa δ fun o1 δ1 => wb δ1 fun o2 δ2 => use o1 δ2 fun x => use o2 δ2 fun y => p x y fun z => ∃ k, z = .bool k ∧
  if k = true then wc δ2 fun o3 δ3 => use o2 δ3 fun y => use o3 δ3 fun w => q y w fun z => R (.d z) δ3 else R (.d (.bool false)) δ2
theorem chain_up {p q : P2} {wa wb wc : DE} {K : PySem.W.Frag} {σ : L2.St} {H : Hp} {Q : VK} (h : up K (wChain p q wa wb wc) σ H Q) : tChain (rOf K p) (rOf K q) (up K wa) (up K wb) (up K wc) σ H Q := by
  obtain ⟨B, G, δ, R, rel, hw, k⟩ := h
  refine ⟨B, G, δ, _, rel, hw, fun v H1 G1 o1 δ1 r1 s1 rel1 ok1 => ⟨B, G1, δ1, _, rel1, r1, fun u H2 G2 o2 δ2 r2 s2 rel2 ok2 => ?_⟩⟩
  obtain ⟨x, q1, b1⟩ := use_ok rel2 (ok1.mono s2) r2
  obtain ⟨y, q2, b2⟩ := use_ok rel2 ok2 q1
  refine ⟨B, G2, δ2, σ, x, y, _, rel2, b1, b2, q2, fun v' H' G' z rz s3 rel3 dz => ?_⟩
  obtain ⟨kb, rfl, rz⟩ := rz
  refine ⟨kb, dn_bool dz, ?_⟩
  cases kb with
  | false =>
    rw [if_neg Bool.false_ne_true] at rz ⊢
    exact k _ H' G' _ _ rz (s1.trans (s2.trans s3)) rel3 (Dn.bl false)
  | true =>
    rw [if_pos rfl] at rz ⊢
    refine ⟨B, G', δ2, _, rel3, rz, fun w H4 G4 o3 δ4 r4 s4 rel4 ok4 => ?_⟩
    obtain ⟨y', q3, b3⟩ := use_ok rel4 (ok2.mono (s3.trans s4)) r4
    obtain ⟨w', q4, b4⟩ := use_ok rel4 ok4 q3
    exact ⟨B, G4, δ4, σ, y', w', _, rel4, b3, b4, q4, fun v' H' G5 z rz s5 rel5 dz => k v' H' G5 _ _ rz (s1.trans (s2.trans (s3.trans (s4.trans s5)))) rel5 dz⟩
theorem je_chain {p q : P2} {op op' : CmpOp} {wa wb wc : DE} (ho : OpD X (compareOp op) p) (ho' : OpD X (compareOp op') q) (ha : JE X a wa) (hb : JE X b wb) (hc : JE X c wc) (hm : lastMarks [op, op'] [b, c] = false := by rfl) : JE X (.Compare a [op, op'] [b, c] pos) (wChain p q wa wb wc) :=
  pe_le (pe_chain ho ho' ha hb hc (hm := hm)) fun _ _ _ _ _ _ h => chain_up h
theorem jt_chain {p q : P2} {op op' : CmpOp} {wa wb wc : DE} (ho : OpD X (compareOp op) p) (ho' : OpD X (compareOp op') q) (ha : JE X a wa) (hb : JE X b wb) (hc : JE X c wc) (hm : lastMarks [op, op'] [b, c] = false := by rfl) : JT X (.Compare a [op, op'] [b, c] pos) (wB (wChain p q wa wb wc)) :=
  pt_le (pt_chain ho ho' ha hb hc (hm := hm)) fun _ _ _ _ _ _ h => by
    have h2 := b_up h
    exact chain_up h2

variable {rest : List Expr}
def wAnd (t u : DT) : DT := fun δ R => t δ fun k δ1 => if k = true then u δ1 R else R false δ1
def wOr (t u : DT) : DT := fun δ R => t δ fun k δ1 => if k = true then R true δ1 else u δ1 R
def wNot (t : DT) : DT := fun δ R => t δ fun k δ1 => R (!k) δ1
theorem jw_and1 {t : DT} (h : JT X a t) : JW X (.BoolOp .And [a] pos) t := pw_and1 h
theorem jw_or1 {t : DT} (h : JT X a t) : JW X (.BoolOp .Or [a] pos) t := pw_or1 h
theorem jw_and {t u : DT} (ha : JT X a t) (hb : JW X (.BoolOp .And (b :: rest) pos) u) : JW X (.BoolOp .And (a :: b :: rest) pos) (wAnd t u) :=
  pw_le (pw_and ha hb) fun pins s σ H Q I ⟨B, G, δ, R, rel, hw, k⟩ => ⟨B, G, δ, _, rel, hw, fun c H1 G1 δ1 r1 s1 rel1 => by
    cases c with
    | true => rw [if_pos rfl] at r1 ⊢; exact ⟨B, G1, δ1, _, rel1, r1, fun b H2 G2 δ2 r2 s2 rel2 => k b H2 G2 δ2 r2 (s1.trans s2) rel2⟩
    | false => rw [if_neg Bool.false_ne_true] at r1 ⊢; exact k false H1 G1 δ1 r1 s1 rel1⟩
theorem jw_or {t u : DT} (ha : JT X a t) (hb : JW X (.BoolOp .Or (b :: rest) pos) u) : JW X (.BoolOp .Or (a :: b :: rest) pos) (wOr t u) :=
  pw_le (pw_or ha hb) fun pins s σ H Q I ⟨B, G, δ, R, rel, hw, k⟩ => ⟨B, G, δ, _, rel, hw, fun c H1 G1 δ1 r1 s1 rel1 => by
    cases c with
    | false => rw [if_neg Bool.false_ne_true] at r1 ⊢; exact ⟨B, G1, δ1, _, rel1, r1, fun b H2 G2 δ2 r2 s2 rel2 => k b H2 G2 δ2 r2 (s1.trans s2) rel2⟩
    | true => rw [if_pos rfl] at r1 ⊢; exact k true H1 G1 δ1 r1 s1 rel1⟩
theorem jt_w {t : DT} (h : JW X e t) : JT X e t := PW.pt h
theorem jt_not {t : DT} (h : JT X a t) : JT X (.UnaryOp .Not a pos) (wNot t) :=
  pt_le (pt_not h) fun pins s σ H Q I ⟨B, G, δ, R, rel, hw, k⟩ => ⟨B, G, δ, _, rel, hw, fun c H1 G1 δ1 r1 s1 rel1 => k (!c) H1 G1 δ1 r1 s1 rel1⟩
/-- .. as values, True and False alone -/
def wAndV (w u : DE) : DE := fun δ R => w δ fun o δ1 => use o δ1 fun x => ∃ k, x = .bool k ∧ if k = true then u δ1 R else R (.d (.bool false)) δ1
def wOrV (w u : DE) : DE := fun δ R => w δ fun o δ1 => use o δ1 fun x => ∃ k, x = .bool k ∧ if k = true then R (.d (.bool true)) δ1 else u δ1 R
def wNotV (w : DE) : DE := fun δ R => w δ fun o δ1 => use o δ1 fun x => ∃ k, x = .bool k ∧ R (.d (.bool (!k))) δ1
theorem je_one {op} {w : DE} (h : JE X a w) : JE X (.BoolOp op [a] pos) w := pe_one h
theorem je_and {w u : DE} (ha : JE X a w) (hb : JE X (.BoolOp .And (b :: rest) pos) u) : JE X (.BoolOp .And (a :: b :: rest) pos) (wAndV w u) :=
  pe_le (pe_and ha hb) fun pins s σ H Q I ⟨B, G, δ, R, rel, hw, k⟩ => ⟨B, G, δ, _, rel, hw, fun v H1 G1 o δ1 r1 s1 rel1 ok1 => by
    obtain ⟨x, ⟨c, rfl, q⟩, b1⟩ := use_ok rel1 ok1 r1
    refine ⟨c, bor_bool b1, ?_⟩
    cases c with
    | true => rw [if_pos rfl] at q ⊢; exact ⟨B, G1, δ1, _, rel1, q, fun b H2 G2 o2 δ2 r2 s2 rel2 ok2 => k b H2 G2 o2 δ2 r2 (s1.trans s2) rel2 ok2⟩
    | false => rw [if_neg Bool.false_ne_true] at q ⊢; exact k _ H1 G1 _ δ1 q s1 rel1 (Dn.bl false)⟩
theorem je_not {w : DE} (h : JE X a w) : JE X (.UnaryOp .Not a pos) (wNotV w) :=
  pe_le (pe_not h) fun pins s σ H Q I ⟨B, G, δ, R, rel, hw, k⟩ => ⟨B, G, δ, _, rel, hw, fun v H1 G1 o δ1 r1 s1 rel1 ok1 => by
    obtain ⟨x, ⟨c, rfl, q⟩, b1⟩ := use_ok rel1 ok1 r1
    exact ⟨c, bor_bool b1, k _ H1 G1 _ δ1 q s1 rel1 (Dn.bl _)⟩⟩
def wIfE (t : DT) (wa wb : DE) : DE := fun δ R => t δ fun k δ1 => if k = true then wa δ1 R else wb δ1 R
theorem je_ifE {t : DT} {wa wb : DE} (hc : JT X c t) (ha : JE X a wa) (hb : JE X b wb) : JE X (.IfExp c a b pos) (wIfE t wa wb) :=
  pe_le (pe_ifExp hc ha hb) fun pins s σ H Q I ⟨B, G, δ, R, rel, hw, k⟩ => ⟨B, G, δ, _, rel, hw, fun d H1 G1 δ1 r1 s1 rel1 => by
    cases d with
    | true => rw [if_pos rfl] at r1 ⊢; exact ⟨B, G1, δ1, _, rel1, r1, fun b H2 G2 o2 δ2 r2 s2 rel2 ok2 => k b H2 G2 o2 δ2 r2 (s1.trans s2) rel2 ok2⟩
    | false => rw [if_neg Bool.false_ne_true] at r1 ⊢; exact ⟨B, G1, δ1, _, rel1, r1, fun b H2 G2 o2 δ2 r2 s2 rel2 ok2 => k b H2 G2 o2 δ2 r2 (s1.trans s2) rel2 ok2⟩⟩
def pNeg (x : PyData) (R : PyData → Prop) : Prop := match x with
  | .int i => R (.int (-i))
  | _ => False
def wUn (p : PyData → (PyData → Prop) → Prop) (w : DE) : DE := fun δ R => w δ fun o δ1 => use o δ1 fun x => p x fun z => R (.d z) δ1
theorem je_neg {w : DE} (h : JE X a w) : JE X (.UnaryOp .USub a pos) (wUn pNeg w) :=
  pe_le (pe_un un_neg h) fun pins s σ H Q I ⟨B, G, δ, R, rel, hw, k⟩ => ⟨B, G, δ, _, rel, hw, fun v H1 G1 o δ1 r1 s1 rel1 ok1 => by
    obtain ⟨x, q, b1⟩ := use_ok rel1 ok1 r1
    cases x with
    | int i => exact ⟨i, bor_int b1, k _ H1 G1 _ δ1 q s1 rel1 (Dn.int _)⟩
    | _ => exact q.elim⟩
def wTup (w : DA) : DE := fun δ R => w δ fun os δ1 => lkL os δ1 fun xs δ2 => xs.length ≤ 1000 ∧ R (.d (.tuple xs)) δ2
def wLst (w : DA) : DL := fun δ R => w δ fun os δ1 => lkL os δ1 fun xs δ2 => xs.length ≤ 1000 ∧ R xs δ2
theorem le_line {n : Nat} (h : n ≤ 1000) : n ≤ sizeLine := by rw [sizeLine_eq]; omega
theorem je_tup {w : DA} {x1} (h : JA X es w) : JE X (.Tuple es x1 pos) (wTup w) :=
  pe_le (pe_tupC h) fun pins s σ H Q I ⟨B, G, δ, R, rel, hw, k⟩ => ⟨B, G, δ, _, rel, hw, fun vs H1 G1 os δ1 r1 s1 rel1 ok1 => by
    obtain ⟨G2, δ2, xs, ⟨hl, q⟩, s2, rel2, t⟩ := lkL_ok rel1 ok1 r1
    refine ⟨by rw [t.len]; exact le_line hl, fun p o hd np => ?_⟩
    obtain ⟨rel3, s3, at3⟩ := rel2.laidT (xs := vs) np hd
    exact k _ _ _ _ _ q (s1.trans (s2.trans s3)) rel3 (Dn.tup at3 (t.mono s3))⟩
theorem jl_lst {w : DA} (h : JA X es w) : JL X (.List es pos) (wLst w) :=
  pe_le (pe_lst h) fun pins s σ H Q I ⟨B, G, δ, R, rel, hw, k⟩ => ⟨B, G, δ, _, rel, hw, fun vs H1 G1 os δ1 r1 s1 rel1 ok1 => by
    obtain ⟨G2, δ2, xs, ⟨hl, q⟩, s2, rel2, t⟩ := lkL_ok rel1 ok1 r1
    refine ⟨by rw [t.len]; exact le_line hl, fun p np => ?_⟩
    exact k p vs _ _ _ _ q (s1.trans s2) (rel2.growB np) (rel2.freeB np) t⟩
/-- {} -/
def wDic : DE := fun δ R => R (.d (.dict [])) δ
def rOfN (K : PySem.W.Frag) (p : PN) : List V → Hp → VK → Prop := fun vs H Q => ∃ B G δ σ ds R, Rel K B G δ σ H ∧ BorL K G H vs ds ∧ p ds R ∧ ∀ v H' G' z, R z → Same G G' → Rel K B G' δ σ H' → Dn K G' v z → Q v H'
abbrev CallD (X : Cx) (f : Value) (p : PN) : Prop := CallR X f (rOfN X.K p)
def wFn (p : PN) (w : DA) : DE := fun δ R => w δ fun os δ1 => useL os δ1 fun xs => p xs fun z => R (.d z) δ1
theorem fn_up {p : PN} {w : DA} {K : PySem.W.Frag} {σ : L2.St} {H : Hp} {Q : VK} (h : up K (wFn p w) σ H Q) : tCB (rOfN K p) (upA K w) σ H Q := by
  obtain ⟨B, G, δ, R, rel, hw, k⟩ := h
  refine ⟨B, G, δ, _, rel, hw, fun vs H1 G1 os δ1 r1 s1 rel1 ok1 => ?_⟩
  obtain ⟨xs, q, b⟩ := useL_ok rel1 ok1 r1
  exact ⟨B, G1, δ1, σ, xs, _, rel1, b, q, fun v H' G' z rz s2 rel2 dz => k v H' G' _ _ rz (s1.trans s2) rel2 dz⟩
theorem je_fn {p : PN} {w : DA} {id : String} {x : Str} {px : Pos} (hc : CallD X (.builtin id) p) (hg : Gl X x) (hm : X.mg x = none) (hv : bootBuiltins x = some (.builtin id)) (ha : JA X (e :: es) w) (hn : x ≠ "__name__" := by decide) (hdb : (x == ("__debug__" : Str)) = false := by decide)
    (he : starEach (e :: es) X.env = (false, eval e X.env) :: starEach es X.env := by rfl) (hpl : (backTo pos (starEach es X.env)).any (·.1) = false := by rfl) : JE X (.Call (.Name x px) (e :: es) [] pos) (wFn p w) :=
  pe_le (pe_callB hc hg hm hv ha hn hdb he hpl) fun _ _ _ _ _ _ h => fn_up h
theorem je_ty {p : PN} {w : DA} {T : String} {x : Str} {px : Pos} (hc : CallD X (.type T) p) (hg : Gl X x) (hm : X.mg x = none) (hv : bootBuiltins x = some (.type T)) (ha : JA X (e :: es) w) (hn : x ≠ "__name__" := by decide) (hdb : (x == ("__debug__" : Str)) = false := by decide)
    (he : starEach (e :: es) X.env = (false, eval e X.env) :: starEach es X.env := by rfl) (hpl : (backTo pos (starEach es X.env)).any (·.1) = false := by rfl) : JE X (.Call (.Name x px) (e :: es) [] pos) (wFn p w) :=
  pe_le (pe_callTy hc hg hm hv ha hn hdb he hpl) fun _ _ _ _ _ _ h => fn_up h
def rOfNL (K : PySem.W.Frag) (p : List PyData → (List PyData → Prop) → Prop) : List V → Hp → VK → Prop := fun vs H Q => ∃ B G δ σ ds R, Rel K B G δ σ H ∧ BorL K G H vs ds ∧ p ds R ∧ ∀ a ws H' G' z, R z → Same G G' → Rel K (upd B a (.lst ws)) G' δ σ H' → B a = none → DnL K G' ws z → Q (.ref a) H'
abbrev CallDL (X : Cx) (f : Value) (p : List PyData → (List PyData → Prop) → Prop) : Prop := CallR X f (rOfNL X.K p)
def wFnL (p : List PyData → (List PyData → Prop) → Prop) (w : DA) : DL := fun δ R => w δ fun os δ1 => useL os δ1 fun xs => p xs fun z => R z δ1
theorem fnL_up {p : List PyData → (List PyData → Prop) → Prop} {w : DA} {K : PySem.W.Frag} {σ : L2.St} {H : Hp} {Q : VK} (h : upL K (wFnL p w) σ H Q) : tCB (rOfNL K p) (upA K w) σ H Q := by
  obtain ⟨B, G, δ, R, rel, hw, k⟩ := h
  refine ⟨B, G, δ, _, rel, hw, fun vs H1 G1 os δ1 r1 s1 rel1 ok1 => ?_⟩
  obtain ⟨xs, q, b⟩ := useL_ok rel1 ok1 r1
  exact ⟨B, G1, δ1, σ, xs, _, rel1, b, q, fun a ws H' G' z rz s2 rel2 hB dz => k a ws H' G' _ _ rz (s1.trans s2) rel2 hB dz⟩
theorem jl_ty {p : List PyData → (List PyData → Prop) → Prop} {w : DA} {T : String} {x : Str} {px : Pos} (hc : CallDL X (.type T) p) (hg : Gl X x) (hm : X.mg x = none) (hv : bootBuiltins x = some (.type T)) (ha : JA X (e :: es) w) (hn : x ≠ "__name__" := by decide) (hdb : (x == ("__debug__" : Str)) = false := by decide)
    (he : starEach (e :: es) X.env = (false, eval e X.env) :: starEach es X.env := by rfl) (hpl : (backTo pos (starEach es X.env)).any (·.1) = false := by rfl) : JL X (.Call (.Name x px) (e :: es) [] pos) (wFnL p w) :=
  pe_le (pe_callTy hc hg hm hv ha hn hdb he hpl) fun _ _ _ _ _ _ h => fnL_up h
/-- xs + ys, xs * n -/
abbrev P2L := PyData → PyData → (List PyData → Prop) → Prop
def rOfL (K : PySem.W.Frag) (p : P2L) : R2 := fun x y H Q => ∃ B G δ σ dx dy R, Rel K B G δ σ H ∧ Bor K G H x dx ∧ Bor K G H y dy ∧ p dx dy R ∧ ∀ a ws H' G' z, R z → Same G G' → Rel K (upd B a (.lst ws)) G' δ σ H' → B a = none → DnL K G' ws z → Q (.ref a) H'
abbrev OpDL (X : Cx) (f : Value → Value → Sem Value) (p : P2L) : Prop := OpR X f (rOfL X.K p)
def wOpL (p : P2L) (wa wb : DE) : DL := fun δ R => wa δ fun o1 δ1 => wb δ1 fun o2 δ2 => use o1 δ2 fun x => use o2 δ2 fun y => p x y fun z => R z δ2
theorem opL_up {p : P2L} {wa wb : DE} {K : PySem.W.Frag} {σ : L2.St} {H : Hp} {Q : VK} (h : upL K (wOpL p wa wb) σ H Q) : tOp (rOfL K p) (up K wa) (up K wb) σ H Q := by
  obtain ⟨B, G, δ, R, rel, hw, k⟩ := h
  refine ⟨B, G, δ, _, rel, hw, fun v H1 G1 o1 δ1 r1 s1 rel1 ok1 => ⟨B, G1, δ1, _, rel1, r1, fun u H2 G2 o2 δ2 r2 s2 rel2 ok2 => ?_⟩⟩
  obtain ⟨x, q1, b1⟩ := use_ok rel2 (ok1.mono s2) r2
  obtain ⟨y, q2, b2⟩ := use_ok rel2 ok2 q1
  exact ⟨B, G2, δ2, σ, x, y, _, rel2, b1, b2, q2, fun a ws H' G' z rz s3 rel3 hB dz => k a ws H' G' _ _ rz (s1.trans (s2.trans s3)) rel3 hB dz⟩
theorem jl_op {p : P2L} {op : Operator} {wa wb : DE} (ho : OpDL X (binaryOp op) p) (ha : JE X a wa) (hb : JE X b wb) : JL X (.BinOp a op b pos) (wOpL p wa wb) :=
  pe_le (pe_op ho ha hb) fun _ _ _ _ _ _ h => opL_up h
abbrev IxD (X : Cx) (p : P2) : Prop := IxR X (rOf X.K p)
theorem je_ix {p : P2} {wa wb : DE} (hr : IxD X p) (ha : JE X a wa) (hb : JE X b wb) (hs : PlainIx b) : JE X (.Subscript a b pos) (wOp p wa wb) :=
  pe_le (pe_ix hr ha hb hs) fun _ _ _ _ _ _ h => op_up h
abbrev DO := DS → (Option Int → DS → Prop) → Prop
def upO (K : PySem.W.Frag) (w : DO) : TO := fun σ H Q => ∃ B G δ R, Rel K B G δ σ H ∧ w δ R ∧ ∀ i H' G' δ', R i δ' → Same G G' → Rel K B G' δ' σ H' → Q i H'
abbrev JO (X : Cx) (e : Option Expr) (w : DO) : Prop := PO X e (upO X.K w)
def wNoP : DO := fun δ R => R none δ
def wPart (w : DE) : DO := fun δ R => w δ fun o δ1 => use o δ1 fun x => ∃ i, x = .int i ∧ R (some i) δ1
theorem po_le {e : Option Expr} {t t' : TO} (h : PO X e t) (l : ∀ pins s σ H Q, Inv X pins σ H s → t' σ H Q → t σ H Q) : PO X e t' := ⟨fun pins s σ H Q I q => h.run pins s σ H Q I (l pins s σ H Q I q)⟩
theorem jo_none : JO X none wNoP := po_le po_none fun pins s σ H Q I ⟨B, G, δ, R, rel, hw, k⟩ => k none H G δ hw (Same.refl _) rel
theorem jo_some {w : DE} (h : JE X e w) : JO X (some e) (wPart w) := po_le (po_some h) fun pins s σ H Q I ⟨B, G, δ, R, rel, hw, k⟩ => ⟨B, G, δ, _, rel, hw, fun v H1 G1 o δ1 r1 s1 rel1 ok1 => by
  obtain ⟨x, ⟨i, rfl, q⟩, b⟩ := use_ok rel1 ok1 r1
  exact ⟨i, bor_int b, k _ H1 G1 δ1 q s1 rel1⟩⟩
abbrev P3 := PyData → Option Int → Option Int → (PyData → Prop) → Prop
def rOfS (K : PySem.W.Frag) (p : P3) : V → Option Int → Option Int → Hp → VK → Prop := fun x lo hi H Q => ∃ B G δ σ dx R, Rel K B G δ σ H ∧ Bor K G H x dx ∧ p dx lo hi R ∧ ∀ v H' G' z, R z → Same G G' → Rel K B G' δ σ H' → Dn K G' v z → Q v H'
def wSl (p : P3) (w : DE) (l h : DO) : DE := fun δ R => w δ fun o δ1 => l δ1 fun i δ2 => h δ2 fun j δ3 => use o δ3 fun x => p x i j fun z => R (.d z) δ3
theorem je_sl {p : P3} {w : DE} {l h : DO} {lo hi : Option Expr} {p2 : Pos} (hr : SlR X (rOfS X.K p)) (he : JE X e w) (hl : JO X lo l) (hh : JO X hi h) : JE X (.Subscript e (.Slice lo hi none p2) pos) (wSl p w l h) :=
  pe_le (pe_slice hr he hl hh) fun pins s σ H Q I ⟨B, G, δ, R, rel, hw, k⟩ => ⟨B, G, δ, _, rel, hw, fun v H1 G1 o δ1 r1 s1 rel1 ok1 => ⟨B, G1, δ1, _, rel1, r1, fun i H2 G2 δ2 r2 s2 rel2 => ⟨B, G2, δ2, _, rel2, r2, fun j H3 G3 δ3 r3 s3 rel3 => by
    obtain ⟨x, q, b⟩ := use_ok rel3 (ok1.mono (s2.trans s3)) r3
    exact ⟨B, G3, δ3, σ, x, _, rel3, b, q, fun v' H' G' z rz s4 rel4 dz => k v' H' G' _ _ rz (s1.trans (s2.trans (s3.trans s4))) rel4 dz⟩⟩⟩⟩
end
end DL
set_option Elab.async false
set_option linter.all false
set_option maxRecDepth 100000
set_option maxHeartbeats 4000000
namespace DL
open PySem PySem.Spec PyProof.Rows L2
variable [Tb]

mutual
theorem Dn.dp {K : PySem.W.Frag} {H : Hp} : ∀ (d : PyData) {v : V}, d.hasDict = false → Dn K H v d → Dp K H v d
  | .none, _, _, h => by cases h; exact .non
  | .bool b, _, _, h => by cases h; exact .bl b
  | .int i, _, _, h => by cases h; exact .int i
  | .str x, _, _, h => by cases h; exact .str x
  | .list ds, _, z, h => by cases h with | lst h t => exact .lst (SqL.of h) (DnL.dp ds (by simpa [PyData.hasDict] using z) t)
  | .tuple ds, _, z, h => by cases h with | tup h t => exact .tup h.sq (DnL.dp ds (by simpa [PyData.hasDict] using z) t)
  | .dict kvs, _, z, h => by simp [PyData.hasDict] at z
theorem DnL.dp {K : PySem.W.Frag} {H : Hp} : ∀ (ds : List PyData) {vs : List V}, PyData.hasDictAll ds = false → DnL K H vs ds → DpAll K H vs ds
  | [], _, _, h => by cases h; exact .nil
  | d :: ds, _, z, h => by
    have z' : d.hasDict = false ∧ PyData.hasDictAll ds = false := by simpa [PyData.hasDictAll] using z
    cases h with | cons a b => exact .cons (Dn.dp d z'.1 a) (DnL.dp ds z'.2 b)
end
theorem noDict_of_shaped {d : PyData} (h : SeqAt.shaped d = true) : d.hasDict = false := PyData.hasDict_of_canLay d (SeqAt.canLay_of_shaped h)

section
variable {X : Cx}
abbrev ints2 (f : Int → Int → (PyData → Prop) → Prop) : P2 := fun x y R => match x, y with
  | .int i, .int j => f i j R
  | _, _ => False
theorem opd_ints {f : Value → Value → Sem Value} {C : Int → Int → Prop} {g : Int → Int → Int} {p : Int → Int → (PyData → Prop) → Prop} (h : OpR X f (rI C fun i j => .int (g i j))) (hp : ∀ i j R, p i j R → C i j ∧ R (.int (g i j))) : OpD X f (ints2 p) := by
  intro pins s σ H x y v u Q I rx ry ⟨B, G, δ, σ', dx, dy, R, rel, bx, by', q, k⟩
  cases dx <;> cases dy <;> first | exact False.elim q | skip
  obtain ⟨c, r⟩ := hp _ _ _ q
  exact h pins s σ H x y v u Q I rx ry ⟨_, _, bor_int bx, bor_int by', c, k _ H G _ r (Same.refl _) rel (Dn.int _)⟩
theorem opd_ints0 {f : Value → Value → Sem Value} {g : Int → Int → Int} (h : OpR X f (rI0 fun i j => .int (g i j))) : OpD X f (ints2 fun i j R => R (.int (g i j))) := by
  intro pins s σ H x y v u Q I rx ry ⟨B, G, δ, σ', dx, dy, R, rel, bx, by', q, k⟩
  cases dx <;> cases dy <;> first | exact False.elim q | skip
  exact h pins s σ H x y v u Q I rx ry ⟨_, _, bor_int bx, bor_int by', k _ H G _ q (Same.refl _) rel (Dn.int _)⟩
theorem opd_bools {f : Value → Value → Sem Value} {g : Int → Int → Bool} (h : OpR X f (rI0 fun i j => .bl (g i j))) : OpD X f (ints2 fun i j R => R (.bool (g i j))) := by
  intro pins s σ H x y v u Q I rx ry ⟨B, G, δ, σ', dx, dy, R, rel, bx, by', q, k⟩
  cases dx <;> cases dy <;> first | exact False.elim q | skip
  exact h pins s σ H x y v u Q I rx ry ⟨_, _, bor_int bx, bor_int by', k _ H G _ q (Same.refl _) rel (Dn.bl _)⟩

def pSub : P2 := ints2 fun i j R => R (.int (i - j))
def pMul : P2 := fun x y R => match x, y with
  | .int i, .int j => (CMul i j ∨ CMulW i j) ∧ R (.int (i * j))
  | .list xs, .int k => 0 ≤ k ∧ xs.length * k.toNat ≤ 1000000 ∧ k < 1000000 ∧ R (.list (List.replicate k.toNat xs).flatten)
  | _, _ => False
def pDiv : P2 := ints2 fun i j R => (0 < j ∧ j.natAbs.log2 < 9000) ∧ R (.int (i / j))
def pMod : P2 := ints2 fun i j R => 0 < j ∧ R (.int (i % j))
def pPow : P2 := ints2 fun i j R => CPow i j ∧ R (.int (i ^ j.toNat))
def pShl : P2 := ints2 fun i j R => CPow i j ∧ R (.int (i * 2 ^ j.toNat))
def pAnd : P2 := ints2 fun i j R => R (.int (Builtin.bitAnd i j))
def pOr : P2 := ints2 fun i j R => R (.int (Builtin.bitOr i j))
def pLt : P2 := fun x y R => match x, y with
  | .int i, .int j => R (.bool (decide (i < j)))
  | _, _ => False
def pLe : P2 := ints2 fun i j R => R (.bool (decide (i ≤ j)))
def pGt : P2 := ints2 fun i j R => R (.bool (decide (j < i)))
def pGe : P2 := ints2 fun i j R => R (.bool (decide (j ≤ i)))
def pAdd : P2 := fun x y R => match x, y with
  | .int i, .int j => R (.int (i + j))
  | .str a, .str b => a.length + b.length ≤ 1000000 ∧ R (.str (a ++ b))
  | .tuple xs, .tuple ys => xs.length + ys.length ≤ 1000000 ∧ R (.tuple (xs ++ ys))
  | .list xs, .list ys => xs.length + ys.length ≤ 1000000 ∧ R (.list (xs ++ ys))
  | _, _ => False
theorem million {n : Nat} (h : n ≤ 1000000) : n ≤ sizeLine := by rw [sizeLine_eq]; omega
theorem d_sub : OpD X (binaryOp .Sub) pSub := opd_ints0 op_sub
theorem d_div : OpD X (binaryOp .FloorDiv) pDiv := opd_ints op_fdivW fun i j R h => h
theorem d_mod : OpD X (binaryOp .Mod) pMod := opd_ints op_mod fun i j R h => h
theorem d_pow : OpD X (binaryOp .Pow) pPow := opd_ints op_pow fun i j R h => h
theorem d_le : OpD X (compareOp .LtE) pLe := opd_bools op_le
theorem d_gt : OpD X (compareOp .Gt) pGt := opd_bools op_gt
theorem d_ge : OpD X (compareOp .GtE) pGe := opd_bools op_ge
theorem DnL.nil_iff {K : PySem.W.Frag} {G : Hp} {vs : List V} {ds : List PyData} (t : DnL K G vs ds) : vs = [] ↔ ds = [] := by
  cases t with
  | nil => simp
  | cons a b => simp
theorem d_add : OpD X (binaryOp .Add) pAdd := by
  intro pins s σ H x y v u Q I rx ry ⟨B, G, δ, σ', dx, dy, R, rel, bx, by', q, k⟩
  cases dx <;> cases dy <;> first | exact False.elim q | skip
  · exact op_add pins s σ H x y v u Q I rx ry ⟨_, _, bor_int bx, bor_int by', k _ H G _ q (Same.refl _) rel (Dn.int _)⟩
  · exact op_add_str pins s σ H x y v u Q I rx ry ⟨_, _, bor_str bx, bor_str by', million q.1, k _ H G _ q.2 (Same.refl _) rel (Dn.str _)⟩
  · obtain ⟨a, xs, rfl, ha, ta⟩ := bor_lst rel bx
    obtain ⟨b, ys, rfl, hb, tb⟩ := bor_lst rel by'
    refine op_cat pins s σ H _ _ v u Q I rx ry ⟨a, b, xs, ys, rfl, rfl, ha, hb, by rw [ta.len, tb.len]; exact million q.1, fun p np => ?_⟩
    obtain ⟨rel3, s3⟩ := rel.laid (o := .lst (xs ++ ys)) np
    exact k _ _ _ _ q.2 s3 rel3 (Dn.lst upd_same ((ta.app tb).mono s3))
  · obtain ⟨a, xs, rfl, ha, ta⟩ := bor_tupS bx
    obtain ⟨b, ys, rfl, hb, tb⟩ := bor_tupS by'
    refine op_catC pins s σ H _ _ v u Q I rx ry ⟨a, b, xs, ys, rfl, rfl, sqT_mono rel.sg ha.sq, sqT_mono rel.sg hb.sq, by rw [ta.len, tb.len]; exact million q.1, fun e => ?_, fun e e2 => ?_, fun e1 e2 p o hd np => ?_⟩
    · have e' := ta.nil_iff.mp e
      subst e e'
      exact k _ H G _ q.2 (Same.refl _) rel (Dn.tup hb (by simpa using tb))
    · have e' := tb.nil_iff.mp e2
      subst e2 e'
      exact k _ H G _ q.2 (Same.refl _) rel (Dn.tup ha (by simpa using ta))
    · obtain ⟨rel3, s3, at3⟩ := rel.laidT (xs := xs ++ ys) np hd
      exact k _ _ _ _ q.2 s3 rel3 (Dn.tup at3 ((ta.app tb).mono s3))
theorem DnL.rep {K : PySem.W.Frag} {G : Hp} {vs : List V} {ds : List PyData} (t : DnL K G vs ds) : ∀ n : Nat, DnL K G (List.replicate n vs).flatten (List.replicate n ds).flatten
  | 0 => .nil
  | n + 1 => by
    rw [List.replicate_succ, List.replicate_succ, List.flatten_cons, List.flatten_cons]
    exact t.app (DnL.rep t n)
theorem d_mul : OpD X (binaryOp .Mult) pMul := by
  intro pins s σ H x y v u Q I rx ry ⟨B, G, δ, σ', dx, dy, R, rel, bx, by', q, k⟩
  cases dx <;> cases dy <;> first | exact False.elim q | skip
  · rcases q.1 with c | c
    · exact op_mul pins s σ H x y v u Q I rx ry ⟨_, _, bor_int bx, bor_int by', c, k _ H G _ q.2 (Same.refl _) rel (Dn.int _)⟩
    · exact op_mulW pins s σ H x y v u Q I rx ry ⟨_, _, bor_int bx, bor_int by', c, k _ H G _ q.2 (Same.refl _) rel (Dn.int _)⟩
  · obtain ⟨a, xs, rfl, ha, ta⟩ := bor_lst rel bx
    obtain ⟨q0, q1, q2, q3⟩ := q
    refine op_rep pins s σ H _ _ v u Q I rx ry ⟨a, _, xs, rfl, bor_int by', ha, by omega, by omega, by rw [ta.len]; exact million q1, fun p np => ?_⟩
    obtain ⟨rel3, s3⟩ := rel.laid (o := .lst _) np
    exact k _ _ _ _ q3 s3 rel3 (Dn.lst upd_same ((ta.rep _).mono s3))
/-- xs + ys that is one's own -/
def pAddL : P2L := fun x y R => match x, y with
  | .list xs, .list ys => xs.length + ys.length ≤ 1000000 ∧ R (xs ++ ys)
  | _, _ => False
theorem d_addL : OpDL X (binaryOp .Add) pAddL := by
  intro pins s σ H x y v u Q I rx ry ⟨B, G, δ, σ', dx, dy, R, rel, bx, by', q, k⟩
  cases dx <;> cases dy <;> first | exact False.elim q | skip
  obtain ⟨a, xs, rfl, ha, ta⟩ := bor_lst rel bx
  obtain ⟨b, ys, rfl, hb, tb⟩ := bor_lst rel by'
  exact op_cat pins s σ H _ _ v u Q I rx ry ⟨a, b, xs, ys, rfl, rfl, ha, hb, by rw [ta.len, tb.len]; exact million q.1, fun p np => k p _ _ G _ q.2 (Same.refl _) (rel.growB np) (rel.freeB np) (ta.app tb)⟩
def pMulL : P2L := fun x y R => match x, y with
  | .list xs, .int k => 0 ≤ k ∧ xs.length * k.toNat ≤ 1000000 ∧ k < 1000000 ∧ R (List.replicate k.toNat xs).flatten
  | _, _ => False
/-- both of one plain kind: compared at once -/
def sc2 : PyData → PyData → Bool
  | .int _, .int _ => true
  | .str _, .str _ => true
  | .bool _, .bool _ => true
  | .none, .none => true
  | _, _ => false
def pEq : P2 := fun x y R => (sc2 x y = true ∨ SeqAt.shaped x = true ∧ SeqAt.shaped y = true) ∧ R (.bool (PyData.eqv x y))
def pNe : P2 := fun x y R => (sc2 x y = true ∨ SeqAt.shaped x = true ∧ SeqAt.shaped y = true) ∧ R (.bool (!PyData.eqv x y))
theorem sc2_eq {K : PySem.W.Frag} {G H : Hp} {x y : V} {dx dy : PyData} (h : sc2 dx dy = true) (bx : Bor K G H x dx) (by' : Bor K G H y dy) : scal x y = true ∧ decide (x = y) = PyData.eqv dx dy := by
  cases dx <;> cases dy <;> first | exact absurd h Bool.false_ne_true | skip
  · obtain rfl := bor_none bx
    obtain rfl := bor_none by'
    exact ⟨rfl, by simp [PyData.eqv]⟩
  · obtain rfl := bor_bool bx
    obtain rfl := bor_bool by'
    refine ⟨rfl, ?_⟩
    rw [dec_bl]; simp [PyData.eqv]
  · obtain rfl := bor_int bx
    obtain rfl := bor_int by'
    refine ⟨rfl, ?_⟩
    rw [dec_int]; simp [PyData.eqv]
  · obtain rfl := bor_str bx
    obtain rfl := bor_str by'
    refine ⟨rfl, ?_⟩
    rw [dec_str]; simp [PyData.eqv]
theorem d_eq (hu : X.A.units + 64 < cLine) : OpD X (compareOp .Eq) pEq := by
  intro pins s σ H x y v u Q I rx ry ⟨B, G, δ, σ', dx, dy, R, rel, bx, by', ⟨c, q⟩, k⟩
  rcases c with c | ⟨q1, q2⟩
  · obtain ⟨h1, h2⟩ := sc2_eq c bx by'
    refine op_eq pins s σ H x y v u Q I rx ry ⟨h1, ?_⟩
    rw [h2]
    exact k _ H G _ q (Same.refl _) rel (Dn.bl _)
  · exact op_eqD hu pins s σ H x y v u Q I rx ry ⟨dx, dy, Dn.dp _ (noDict_of_shaped q1) (bx.dn rel), Dn.dp _ (noDict_of_shaped q2) (by'.dn rel), q1, q2, k _ H G _ q (Same.refl _) rel (Dn.bl _)⟩
theorem d_ne (hu : X.A.units + 64 < cLine) : OpD X (compareOp .NotEq) pNe := by
  intro pins s σ H x y v u Q I rx ry ⟨B, G, δ, σ', dx, dy, R, rel, bx, by', ⟨c, q⟩, k⟩
  rcases c with c | ⟨q1, q2⟩
  · obtain ⟨h1, h2⟩ := sc2_eq c bx by'
    refine op_ne pins s σ H x y v u Q I rx ry ⟨h1, ?_⟩
    rw [h2]
    exact k _ H G _ q (Same.refl _) rel (Dn.bl _)
  · exact op_neD hu pins s σ H x y v u Q I rx ry ⟨dx, dy, Dn.dp _ (noDict_of_shaped q1) (bx.dn rel), Dn.dp _ (noDict_of_shaped q2) (by'.dn rel), q1, q2, k _ H G _ q (Same.refl _) rel (Dn.bl _)⟩
def isNone : PyData → Bool
  | .none => true
  | _ => false
def pIs : P2 := fun x y R => match x, y with
  | x, .none => R (.bool (isNone x))
  | .bool a, .bool b => R (.bool (decide (a = b)))
  | _, _ => False
def pIsNot : P2 := fun x y R => match x, y with
  | x, .none => R (.bool (!isNone x))
  | .bool a, .bool b => R (.bool (!decide (a = b)))
  | _, _ => False
theorem dn_non {K : PySem.W.Frag} {G : Hp} {v : V} {d : PyData} (h : Dn K G v d) : decide (v = V.non) = isNone d := by
  cases h <;> rfl
theorem d_is : OpD X (compareOp .Is) pIs := by
  intro pins s σ H x y v u Q I rx ry ⟨B, G, δ, σ', dx, dy, R, rel, bx, by', q, k⟩
  cases dy with
  | none =>
    refine op_isN pins s σ H x y v u Q I rx ry ⟨bor_none by', ?_⟩
    rw [dn_non (bx.dn rel)]
    have q' : R (.bool (isNone dx)) := by cases dx <;> exact q
    exact k _ H G _ q' (Same.refl _) rel (Dn.bl _)
  | bool b =>
    cases dx <;> first | exact False.elim q | skip
    exact op_isBl pins s σ H x y v u Q I rx ry ⟨_, _, bor_bool bx, bor_bool by', k _ H G _ q (Same.refl _) rel (Dn.bl _)⟩
  | _ => cases dx <;> exact False.elim q
theorem d_isnot : OpD X (compareOp .IsNot) pIsNot := by
  intro pins s σ H x y v u Q I rx ry ⟨B, G, δ, σ', dx, dy, R, rel, bx, by', q, k⟩
  cases dy with
  | none =>
    refine op_notN pins s σ H x y v u Q I rx ry ⟨bor_none by', ?_⟩
    rw [dn_non (bx.dn rel)]
    have q' : R (.bool (!isNone dx)) := by cases dx <;> exact q
    exact k _ H G _ q' (Same.refl _) rel (Dn.bl _)
  | bool b =>
    cases dx <;> first | exact False.elim q | skip
    exact op_notBl pins s σ H x y v u Q I rx ry ⟨_, _, bor_bool bx, bor_bool by', k _ H G _ q (Same.refl _) rel (Dn.bl _)⟩
  | _ => cases dx <;> exact False.elim q
def pIn : P2 := fun x y R => match y with
  | .list ds => SeqAt.shaped x = true ∧ SeqAt.shaped (.list ds) = true ∧ R (.bool (ds.any fun z => PyData.eqv z x))
  | .tuple ds => SeqAt.shaped x = true ∧ SeqAt.shaped (.tuple ds) = true ∧ R (.bool (ds.any fun z => PyData.eqv z x))
  | .str z => ∃ c : Nat, x = .str ⟨#[c]⟩ ∧ R (.bool (decide (c ∈ z.cps.toList)))
  | _ => False
def pNotIn : P2 := fun x y R => match y with
  | .list ds => SeqAt.shaped x = true ∧ SeqAt.shaped (.list ds) = true ∧ R (.bool (!ds.any fun z => PyData.eqv z x))
  | .tuple ds => SeqAt.shaped x = true ∧ SeqAt.shaped (.tuple ds) = true ∧ R (.bool (!ds.any fun z => PyData.eqv z x))
  | .str z => ∃ c : Nat, x = .str ⟨#[c]⟩ ∧ R (.bool (!decide (c ∈ z.cps.toList)))
  | _ => False
theorem d_in (hu : X.A.units + 65 < cLine) : OpD X (compareOp .In) pIn := by
  intro pins s σ H x y v u Q I rx ry ⟨B, G, δ, σ', dx, dy, R, rel, bx, by', q, k⟩
  cases dy with
  | list ds =>
    obtain ⟨q1, q2, q⟩ := q
    exact op_inD hu pins s σ H x y v u Q I rx ry ⟨dx, ds, Dn.dp _ (noDict_of_shaped q1) (bx.dn rel), Dn.dp _ (noDict_of_shaped q2) (by'.dn rel), q1, q2, k _ H G _ q (Same.refl _) rel (Dn.bl _)⟩
  | tuple ds =>
    obtain ⟨q1, q2, q⟩ := q
    obtain ⟨as, r1⟩ := Dp.reads I dx x v (Dn.dp _ (noDict_of_shaped q1) (bx.dn rel)) rx
    obtain ⟨bs, r2⟩ := Dp.reads I (.tuple ds) y u (Dn.dp _ (noDict_of_shaped q2) (by'.dn rel)) ry
    exact SeqAt.in_tuple_reads r2 r1 (by simpa [PyData.canLay0] using SeqAt.canLay_of_shaped q2) (SeqAt.canLay_of_shaped q1) (room_in_shaped q1 hu) ⟨.bl _, H, I, rfl, k _ H G _ q (Same.refl _) rel (Dn.bl _)⟩
  | str z =>
    obtain ⟨c, rfl, q⟩ := q
    exact op_in_sign pins s σ H x y v u Q I rx ry ⟨c, z, bor_str bx, bor_str by', k _ H G _ q (Same.refl _) rel (Dn.bl _)⟩
  | _ => exact False.elim q
theorem d_notIn (hu : X.A.units + 65 < cLine) : OpD X (compareOp .NotIn) pNotIn := by
  intro pins s σ H x y v u Q I rx ry ⟨B, G, δ, σ', dx, dy, R, rel, bx, by', q, k⟩
  cases dy with
  | list ds =>
    obtain ⟨q1, q2, q⟩ := q
    exact op_notInD hu pins s σ H x y v u Q I rx ry ⟨dx, ds, Dn.dp _ (noDict_of_shaped q1) (bx.dn rel), Dn.dp _ (noDict_of_shaped q2) (by'.dn rel), q1, q2, k _ H G _ q (Same.refl _) rel (Dn.bl _)⟩
  | tuple ds =>
    obtain ⟨q1, q2, q⟩ := q
    obtain ⟨as, r1⟩ := Dp.reads I dx x v (Dn.dp _ (noDict_of_shaped q1) (bx.dn rel)) rx
    obtain ⟨bs, r2⟩ := Dp.reads I (.tuple ds) y u (Dn.dp _ (noDict_of_shaped q2) (by'.dn rel)) ry
    exact SeqAt.notIn_tuple_reads r2 r1 (by simpa [PyData.canLay0] using SeqAt.canLay_of_shaped q2) (SeqAt.canLay_of_shaped q1) (room_in_shaped q1 hu) ⟨.bl _, H, I, rfl, k _ H G _ q (Same.refl _) rel (Dn.bl _)⟩
  | str z =>
    obtain ⟨c, rfl, q⟩ := q
    exact op_notIn_sign pins s σ H x y v u Q I rx ry ⟨c, z, bor_str bx, bor_str by', k _ H G _ q (Same.refl _) rel (Dn.bl _)⟩
  | _ => exact False.elim q
def pIx : P2 := fun x y R => match x, y with
  | .list ds, .int i => ∃ z, atI ds i = some z ∧ R z
  | .tuple ds, .int i => ∃ z, atI ds i = some z ∧ R z
  | .str z, .int i => z.length ≤ 1000000 ∧ ∃ c, atI z.cps.toList i = some c ∧ R (.str ⟨#[c]⟩)
  | _, _ => False
theorem DnL.atI {K : PySem.W.Frag} {G : Hp} {vs : List V} {ds : List PyData} {i : Int} {z : PyData} (t : DnL K G vs ds) (h : L2.atI ds i = some z) : ∃ v, L2.atI vs i = some v ∧ Dn K G v z := by
  unfold L2.atI at h ⊢
  rw [t.len]
  cases e : ixN ds.length i with
  | none => rw [e] at h; cases h
  | some j => rw [e] at h; exact t.get h
theorem d_ix : IxD X pIx := by
  have hor := @ix_seq X
  intro ev es pins s σ H x y v u Q I rx ry ⟨B, G, δ, σ', dx, dy, R, rel, bx, by', q, k⟩ hsub
  cases dx <;> cases dy <;> first | exact False.elim q | skip
  · obtain ⟨q1, c, e, q⟩ := q
    exact hor ev es pins s σ H x y v u Q I rx ry (.inr (.inr ⟨_, _, c, bor_str bx, bor_int by', million q1, e, k _ H G _ q (Same.refl _) rel (Dn.str _)⟩)) hsub
  · obtain ⟨a, xs, rfl, ha, ta⟩ := bor_lst rel bx
    obtain ⟨z, e, q⟩ := q
    obtain ⟨w, e2, dw⟩ := ta.atI e
    exact hor ev es pins s σ H _ y v u Q I rx ry (.inl ⟨a, xs, _, w, rfl, bor_int by', SqL.of ha, e2, k _ H G _ q (Same.refl _) rel dw⟩) hsub
  · obtain ⟨a, xs, rfl, ha, ta⟩ := bor_tup bx
    obtain ⟨z, e, q⟩ := q
    obtain ⟨w, e2, dw⟩ := ta.atI e
    exact hor ev es pins s σ H _ y v u Q I rx ry (.inr (.inl ⟨a, xs, _, w, rfl, bor_int by', sqT_mono rel.sg ha, e2, k _ H G _ q (Same.refl _) rel dw⟩)) hsub
def cutD {α : Type} (xs : List α) (lo hi : Option Int) : List α := (xs.drop (HT.sIx xs.length 0 lo)).take (HT.sIx xs.length xs.length hi - HT.sIx xs.length 0 lo)
def pSl : P3 := fun x lo hi R => match x with
  | .list ds => R (.list (cutD ds lo hi))
  | .tuple ds => R (.tuple (cutD ds lo hi))
  | .str z => z.length ≤ 1000000 ∧ R (.str (cutS z lo hi))
  | _ => False
theorem DnL.cut {K : PySem.W.Frag} {G : Hp} {vs : List V} {ds : List PyData} {lo hi : Option Int} (t : DnL K G vs ds) : DnL K G (cutV vs lo hi) (cutD ds lo hi) := by
  unfold cutV cutD
  rw [t.len]
  exact (t.drop _).take _
theorem cutD_whole {α : Type} {xs : List α} {lo hi : Option Int} (h1 : HT.sIx xs.length 0 lo = 0) (h2 : HT.sIx xs.length xs.length hi = xs.length) : cutD xs lo hi = xs := by
  unfold cutD
  rw [h1, h2]; simp
theorem d_sl : SlR X (rOfS X.K pSl) := by
  intro pins s σ H x v vl vu lo hi sl Q I rx hs pl pu ⟨B, G, δ, σ', dx, R, rel, bx, q, k⟩
  cases dx with
  | list ds =>
    obtain ⟨a, xs, rfl, ha, ta⟩ := bor_lst rel bx
    refine sl_list pins s σ H _ v vl vu lo hi sl Q I rx hs pl pu ⟨a, xs, rfl, SqL.of ha, fun p np => ?_⟩
    obtain ⟨rel3, s3⟩ := rel.laid (o := .lst (cutV xs lo hi)) np
    exact k _ _ _ _ q s3 rel3 (Dn.lst upd_same (ta.cut.mono s3))
  | tuple ds =>
    obtain ⟨a, xs, rfl, ha, ta⟩ := bor_tupS bx
    refine sl_tupC pins s σ H _ v vl vu lo hi sl Q I rx hs pl pu ⟨a, xs, rfl, sqT_mono rel.sg ha.sq, fun e => ?_, fun _ p o hd np => ?_⟩
    · have q' : R (.tuple (cutD ds lo hi)) := q
      rw [cutD_whole (by rw [← ta.len]; exact e.1) (by rw [← ta.len]; exact e.2)] at q'
      exact k _ H G _ q' (Same.refl _) rel (Dn.tup ha ta)
    · obtain ⟨rel3, s3, at3⟩ := rel.laidT (xs := cutV xs lo hi) np hd
      exact k _ _ _ _ q s3 rel3 (Dn.tup at3 (ta.cut.mono s3))
  | str z => exact sl_str pins s σ H x v vl vu lo hi sl Q I rx hs pl pu ⟨z, bor_str bx, million q.1, k _ H G _ q.2 (Same.refl _) rel (Dn.str _)⟩
  | _ => exact False.elim q
end
end DL
set_option Elab.async false
set_option linter.all false
set_option maxRecDepth 100000
set_option maxHeartbeats 4000000
namespace DL
open PySem PySem.Spec PyProof.Rows L2
variable [Tb]

section
variable {X : Cx}
theorem BorL.one {K : PySem.W.Frag} {G H : Hp} {vs : List V} {d : PyData} (h : BorL K G H vs [d]) : ∃ v, vs = [v] ∧ Bor K G H v d := by
  cases h with | cons a b => cases b; exact ⟨_, rfl, a⟩
theorem BorL.two {K : PySem.W.Frag} {G H : Hp} {vs : List V} {d e : PyData} (h : BorL K G H vs [d, e]) : ∃ v u, vs = [v, u] ∧ Bor K G H v d ∧ Bor K G H u e := by
  cases h with | cons a b => obtain ⟨u, rfl, c⟩ := b.one; exact ⟨_, _, rfl, a, c⟩
/-- a built-in of one argument -/
abbrev one (p : PyData → (PyData → Prop) → Prop) : PN := fun xs R => match xs with
  | [x] => p x R
  | _ => False
abbrev oneL (p : PyData → (List PyData → Prop) → Prop) : List PyData → (List PyData → Prop) → Prop := fun xs R => match xs with
  | [x] => p x R
  | _ => False
abbrev two (p : PyData → PyData → (PyData → Prop) → Prop) : PN := fun xs R => match xs with
  | [x, y] => p x y R
  | _ => False
def pLen : PN := one fun x R => match x with
  | .list ds => R (.int ds.length)
  | .tuple ds => R (.int ds.length)
  | .str z => z.length ≤ 1000000 ∧ R (.int z.length)
  | _ => False
theorem c_len : CallD X (.builtin "len") pLen := by
  intro pins s σ H vs us Q I r ⟨B, G, δ, σ', ds, R, rel, b, q, k⟩
  match ds, q with
  | [d], q =>
    obtain ⟨v, rfl, bd⟩ := b.one
    cases d with
    | list xs =>
      obtain ⟨a, ws, rfl, ha, ta⟩ := bor_lst rel bd
      exact call_len pins s σ H _ us Q I r ⟨_, _, rfl, .inl ⟨ws, SqL.of ha, ta.len.symm⟩, k _ H G _ q (Same.refl _) rel (Dn.int _)⟩
    | tuple xs =>
      obtain ⟨a, ws, rfl, ha, ta⟩ := bor_tup bd
      exact call_len pins s σ H _ us Q I r ⟨_, _, rfl, .inr ⟨ws, sqT_mono rel.sg ha, ta.len.symm⟩, k _ H G _ q (Same.refl _) rel (Dn.int _)⟩
    | str z =>
      obtain rfl := bor_str bd
      exact call_len pins s σ H _ us Q I r ⟨_, _, rfl, ⟨million q.1, rfl⟩, k _ H G _ q.2 (Same.refl _) rel (Dn.int _)⟩
    | _ => exact False.elim q
def pTupOf : PN := one fun x R => match x with
  | .list ds => R (.tuple ds)
  | .tuple ds => R (.tuple ds)
  | _ => False
theorem c_tup : CallD X (.type "tuple") pTupOf := by
  intro pins s σ H vs us Q I r ⟨B, G, δ, σ', ds, R, rel, b, q, k⟩
  match ds, q with
  | [d], q =>
    obtain ⟨v, rfl, bd⟩ := b.one
    cases d with
    | list xs =>
      obtain ⟨a, ws, rfl, ha, ta⟩ := bor_lst rel bd
      refine call_tupleC pins s σ H _ us Q I r ⟨a, ws, rfl, .inl ⟨SqL.of ha, fun p o hd np => ?_⟩⟩
      obtain ⟨rel3, s3, at3⟩ := rel.laidT (xs := ws) np hd
      exact k _ _ _ _ q s3 rel3 (Dn.tup at3 (ta.mono s3))
    | tuple xs =>
      obtain ⟨a, ws, rfl, ha, ta⟩ := bor_tupS bd
      exact call_tuple_of pins s σ H _ us Q I r ⟨a, ws, rfl, .inr ⟨sqT_mono rel.sg ha.sq, k _ H G _ q (Same.refl _) rel (Dn.tup ha ta)⟩⟩
    | _ => exact False.elim q
def pLstOf : List PyData → (List PyData → Prop) → Prop := oneL fun x R => match x with
  | .list ds => R ds
  | .tuple ds => R ds
  | _ => False
theorem c_lst : CallDL X (.type "list") pLstOf := by
  intro pins s σ H vs us Q I r ⟨B, G, δ, σ', ds, R, rel, b, q, k⟩
  match ds, q with
  | [d], q =>
    obtain ⟨v, rfl, bd⟩ := b.one
    cases d with
    | list xs =>
      obtain ⟨a, ws, rfl, ha, ta⟩ := bor_lst rel bd
      exact call_list_of pins s σ H _ us Q I r ⟨a, ws, rfl, .inl (SqL.of ha), fun p np => k p ws _ G _ q (Same.refl _) (rel.growB np) (rel.freeB np) ta⟩
    | tuple xs =>
      obtain ⟨a, ws, rfl, ha, ta⟩ := bor_tup bd
      exact call_list_of pins s σ H _ us Q I r ⟨a, ws, rfl, .inr (sqT_mono rel.sg ha), fun p np => k p ws _ G _ q (Same.refl _) (rel.growB np) (rel.freeB np) ta⟩
    | _ => exact False.elim q
def pInt : PN := one fun x R => match x with
  | .int i => R (.int i)
  | .bool b => R (.int (if b then 1 else 0))
  | .str z => ∃ n, PySem.intText? z = some n ∧ z.length ≤ 640 ∧ R (.int n)
  | _ => False
theorem c_int : CallD X (.type "int") pInt := by
  intro pins s σ H vs us Q I r ⟨B, G, δ, σ', ds, R, rel, b, q, k⟩
  match ds, q with
  | [d], q =>
    obtain ⟨v, rfl, bd⟩ := b.one
    cases d with
    | int i => obtain rfl := bor_int bd; exact call_int1 pins s σ H _ us Q I r (.inl ⟨i, rfl, k _ H G _ q (Same.refl _) rel (Dn.int _)⟩)
    | bool i => obtain rfl := bor_bool bd; exact call_int1 pins s σ H _ us Q I r (.inr ⟨i, rfl, k _ H G _ q (Same.refl _) rel (Dn.int _)⟩)
    | str z =>
      obtain rfl := bor_str bd
      obtain ⟨n, q1, q2, q3⟩ := q
      exact call_int_str pins s σ H _ us Q I r ⟨z, n, rfl, q1, q2, k _ H G _ q3 (Same.refl _) rel (Dn.int _)⟩
    | _ => exact False.elim q
def pBool : PN := one fun x R => match x with
  | .int i => R (.bool (i != 0))
  | .bool b => R (.bool b)
  | _ => False
def pStr : PN := one fun x R => match x with
  | .int i => i.natAbs.log2 < 1920 ∧ R (.str (toString i))
  | .str z => R (.str z)
  | _ => False
def pAbs : PN := one fun x R => match x with
  | .int i => R (.int (if i < 0 then -i else i))
  | _ => False
theorem c_abs : CallD X (.builtin "abs") pAbs := by
  intro pins s σ H vs us Q I r ⟨B, G, δ, σ', ds, R, rel, b, q, k⟩
  match ds, q with
  | [d], q =>
    obtain ⟨v, rfl, bd⟩ := b.one
    cases d with
    | int i => obtain rfl := bor_int bd; exact call_abs pins s σ H _ us Q I r ⟨i, rfl, k _ H G _ q (Same.refl _) rel (Dn.int _)⟩
    | _ => exact False.elim q
def pMax2 : PN := two fun x y R => match x, y with
  | .int i, .int j => R (.int (if j > i then j else i))
  | _, _ => False
def pMin2 : PN := two fun x y R => match x, y with
  | .int i, .int j => R (.int (if j < i then j else i))
  | _, _ => False
/-- sum, max, min, sorted of ints -/
def pSum : PN := one fun x R => match x with
  | .list ds => ∃ ns : List Int, ds = ns.map PyData.int ∧ R (.int ns.sum)
  | _ => False
def pMax : PN := one fun x R => match x with
  | .list ds => ∃ ns : List Int, ds = ns.map PyData.int ∧ 0 < ns.length ∧ ∀ m, m ∈ ns → (∀ y ∈ ns, y ≤ m) → R (.int m)
  | _ => False
def pMin : PN := one fun x R => match x with
  | .list ds => ∃ ns : List Int, ds = ns.map PyData.int ∧ 0 < ns.length ∧ ∀ m, m ∈ ns → (∀ y ∈ ns, m ≤ y) → R (.int m)
  | _ => False
theorem c_max (hc : X.calm = true) : CallD X (.builtin "max") pMax := by
  intro pins s σ H vs us Q I r ⟨B, G, δ, σ', ds, R, rel, b, q, k⟩
  match ds, q with
  | [d], q =>
    obtain ⟨v, rfl, bd⟩ := b.one
    cases d with
    | list xs =>
      obtain ⟨a, ws, rfl, ha, ta⟩ := bor_lst rel bd
      obtain ⟨ns, rfl, q1, q⟩ := q
      obtain rfl := ta.toInts
      exact cr_max hc pins s σ H _ us Q I r ⟨a, ns, rfl, SqL.of ha, q1, fun m h1 h2 => k _ H G _ (q m h1 h2) (Same.refl _) rel (Dn.int _)⟩
    | _ => exact False.elim q
theorem c_min (hc : X.calm = true) : CallD X (.builtin "min") pMin := by
  intro pins s σ H vs us Q I r ⟨B, G, δ, σ', ds, R, rel, b, q, k⟩
  match ds, q with
  | [d], q =>
    obtain ⟨v, rfl, bd⟩ := b.one
    cases d with
    | list xs =>
      obtain ⟨a, ws, rfl, ha, ta⟩ := bor_lst rel bd
      obtain ⟨ns, rfl, q1, q⟩ := q
      obtain rfl := ta.toInts
      exact cr_min hc pins s σ H _ us Q I r ⟨a, ns, rfl, SqL.of ha, q1, fun m h1 h2 => k _ H G _ (q m h1 h2) (Same.refl _) rel (Dn.int _)⟩
    | _ => exact False.elim q
/-- all, any of a list of truth values -/
def pAll : PN := one fun x R => match x with
  | .list ds => ∃ bs : List Bool, ds = bs.map PyData.bool ∧ R (.bool (bs.all id))
  | _ => False
def pAny : PN := one fun x R => match x with
  | .list ds => ∃ bs : List Bool, ds = bs.map PyData.bool ∧ R (.bool (bs.any id))
  | _ => False
/-- repr of data without dicts -/
def pRepr : PN := one fun x R => x.showable = true ∧ x.hasDict = false ∧ x.depth ≤ 60 ∧ x.shown.length ≤ 16000000 ∧ R (.str x.shown)
def tyName : PyData → String
  | .none => "NoneType" | .bool _ => "bool" | .int _ => "int" | .str _ => "str" | .list _ => "list" | .tuple _ => "tuple" | .dict [] => "dict" | .dict (_ :: _) => "object"
/-- what isinstance goes by: the library's ways, and a frozen dict of any keys -/
def TyF (K : PySem.W.Frag) (H : Hp) (v : V) (t : Value) : Prop := TyX K H v t ∨ ∃ a o ws, v = .ref a ∧ t = .type "dict" ∧ H a = some (.frz o (.dT ws))
theorem dn_tyX {K : PySem.W.Frag} {H : Hp} {v : V} {d : PyData} (h : Dn K H v d) (hd : tyName d ≠ "object") : TyF K H v (.type (tyName d)) := by
  by_cases z : ∃ a o ws, v = .ref a ∧ Value.type (tyName d) = .type "dict" ∧ H a = some (.frz o (.dT ws))
  · exact .inr z
  refine .inl ?_
  cases h with
  | non => exact .base .non
  | bl b => exact .base (.bl b)
  | int i => exact .base (.int i)
  | str x => exact .base (.str x)
  | lst h t => exact .base (.lst h)
  | tup h t =>
    rcases h.two with h | ⟨o, _, h⟩
    · exact .base (.tup h)
    · exact .fTuple h
  | dic h n => exact .base (.dK h)
  | ob h k e t => exact absurd rfl hd
  | fK h e t => exact absurd rfl hd
  | fT h e t => exact absurd rfl hd
/-- an object's type, or a frozen dict's -/
theorem dn_tyO {K : PySem.W.Frag} {H : Hp} {v : V} {d : PyData} (h : Dn K H v d) (hd : tyName d = "object") : (∃ n C, ObjK K n C ∧ TyX K H v (.ref C)) ∨ TyF K H v (.type "dict") := by
  cases h with
  | ob h k e t => exact .inl ⟨_, _, k, .base (.ins h k.cl k.ha k.hn k.tk k.mr)⟩
  | fK h e t => exact .inr (.inl (.fDict h))
  | fT h e t => exact .inr (.inr ⟨_, _, _, rfl, rfl, h⟩)
  | _ => exact absurd hd (by simp [tyName])
def rIsiF (K : PySem.W.Frag) : List V → Hp → VK → Prop := fun xs H Q => ∃ (x c : V) (t u : Value) (b : Bool), xs = [x, c] ∧ ClsV c u ∧ TyF K H x t ∧ PySem.W.kitOne K t u = some b ∧ Q (.bl b) H
theorem call_isiF {X : Cx} : CallR X (.builtin "isinstance") (rIsiF X.K) := fun pins s σ H xs us Q I r ⟨x, c, t, u, b, e1, k, ty, e, q⟩ => by
  rcases ty with ty | ⟨a, o, ws, rfl, rfl, ea⟩
  · exact call_isi pins s σ H xs us Q I r ⟨x, c, t, u, b, e1, k, ty, e, q⟩
  · subst e1
    obtain ⟨u1, u2, rfl, r1, r2⟩ := vals2 r
    cases k.eq r2
    cases (show u1 = Value.ref a from r1)
    obtain ⟨_, _, _, _, _, ob, _, _, h1, h2, _⟩ := (show ObjOk X.prog X.w H s.heap a (.frz o (.dT ws)) from I.hok a _ ea)
    exact PySem.W.kia_one PySem.W.kitx_dict I.kIn ⟨ob, h1, h2.1⟩ e (fun z => nomatch z) fun tk => ⟨.bl b, H, I.tok tk, rfl, q⟩
def isTy (T : String) (d : PyData) : Bool := tyName d == T || (T == "int" && tyName d == "bool")
def wIsi (T : String) (w : DE) : DE := fun δ R => w δ fun o δ1 => use o δ1 fun x => R (.d (.bool (isTy T x))) δ1
theorem kit_isTy {K : PySem.W.Frag} {T : String} (hT : T = "int" ∨ T = "bool" ∨ T = "str" ∨ T = "tuple" ∨ T = "list" ∨ T = "dict") (d : PyData) (hd : tyName d ≠ "object") : PySem.W.kitOne K (.type (tyName d)) (.type T) = some (isTy T d) := by
  apply kit_ty
  have all : ∀ n ∈ ["NoneType", "bool", "int", "str", "list", "tuple", "dict"], ∀ T ∈ ["int", "bool", "str", "tuple", "list", "dict"], kitB n T = some (n == T || (T == "int" && n == "bool")) := by decide +kernel
  exact all (tyName d) (by unfold tyName at hd ⊢; split <;> simp_all) T (by simpa using hT)
theorem je_isi {T : String} {e : Expr} {w : DE} {x t : Str} {px pt pos : Pos} (hT : T = "int" ∨ T = "bool" ∨ T = "str" ∨ T = "tuple" ∨ T = "list") (hg : Gl X x) (hm : X.mg x = none) (hv : bootBuiltins x = some (.builtin "isinstance")) (ht : Gl X t) (hmt : X.mg t = none) (hvt : bootBuiltins t = some (.type T)) (he : JE X e w)
    (hn : x ≠ "__name__" := by decide) (hdb : (x == ("__debug__" : Str)) = false := by decide) (hn2 : t ≠ "__name__" := by decide) (hdb2 : (t == ("__debug__" : Str)) = false := by decide)
    (hs1 : starEach [e, .Name t pt] X.env = (false, eval e X.env) :: starEach [.Name t pt] X.env := by rfl) (hs2 : starEach [.Name t pt] X.env = (false, eval (.Name t pt) X.env) :: starEach [] X.env := by rfl)
    (hpl : (backTo pos (starEach [.Name t pt] X.env)).any (·.1) = false := by rfl) :
    JE X (.Call (.Name x px) [e, .Name t pt] [] pos) (wIsi T w) :=
  pe_le (pe_callB call_isiF hg hm hv (pa_cons he (pa_cons (pe_bltn (v := .ty T) ht hmt hvt rfl hn2 hdb2) pa_nil hs2) hs1) hn hdb hs1 hpl) fun pins s σ H Q I ⟨B, G, δ, R, rel, hw, k⟩ =>
    ⟨B, G, δ, _, rel, hw, fun v H1 G1 o δ1 r1 s1 rel1 ok1 => by
      obtain ⟨d, q, bd⟩ := use_ok rel1 ok1 r1
      by_cases hd : tyName d = "object"
      · have no : isTy T d = false := by
          unfold isTy
          rw [hd]
          rcases hT with rfl | rfl | rfl | rfl | rfl <;> decide
        rw [no] at q
        rcases dn_tyO (bd.dn rel1) hd with ⟨n, C, ok, ty⟩ | ty
        · exact ⟨v, .ty T, _, _, _, rfl, ClsV.ty T, .inl ty, ok.ty T (by rcases hT with rfl | rfl | rfl | rfl | rfl <;> decide), k _ H1 G1 _ δ1 q s1 rel1 (Dn.bl _)⟩
        · refine ⟨v, .ty T, _, _, _, rfl, ClsV.ty T, ty, (?_ : PySem.W.kitOne X.K (.type "dict") (.type T) = some false), k _ H1 G1 _ δ1 q s1 rel1 (Dn.bl _)⟩
          have := kit_isTy (K := X.K) (T := T) (by rcases hT with h | h | h | h | h <;> simp [h]) (.dict []) (by decide)
          rw [show isTy T (.dict []) = false by rcases hT with rfl | rfl | rfl | rfl | rfl <;> decide] at this
          exact this
      · exact ⟨v, .ty T, _, _, _, rfl, ClsV.ty T, dn_tyX (bd.dn rel1) hd, kit_isTy (by rcases hT with h | h | h | h | h <;> simp [h]) d hd, k _ H1 G1 _ δ1 q s1 rel1 (Dn.bl _)⟩⟩
def wRevL (w : DE) : DE := fun δ R => w δ fun o δ1 => use o δ1 fun x => ∃ ds, x = .list ds ∧ R (.d (.list ds.reverse)) δ1
end
end DL
set_option Elab.async false
set_option linter.all false
set_option maxRecDepth 100000
set_option maxHeartbeats 4000000
namespace DL
open PySem PySem.Spec PyProof.Rows L2
variable [Tb]

def bov (B H : Hp) (l : List Addr) : Hp := fun a => if a ∈ l then H a else B a
abbrev DM := DS → (Cell → DS → Prop) → Prop
abbrev DMs := DS → (List Cell → DS → Prop) → Prop
def fps (cs : List Cell) : List Addr := cs.flatMap Cell.fp
inductive CellsOk (K : PySem.W.Frag) (G H : Hp) : List Cell → List V → Prop
  | nil : CellsOk K G H [] []
  | cons {c : Cell} {v : V} {cs : List Cell} {vs : List V} (h : CellOk K G H c (some v)) (hd : ∀ a ∈ c.fp, a ∉ fps cs) (t : CellsOk K G H cs vs) : CellsOk K G H (c :: cs) (v :: vs)
def upMs (K : PySem.W.Frag) (w : DMs) : TA := fun σ H Q => ∃ B G δ R, Rel K B G δ σ H ∧ w δ R ∧ ∀ vs H' G' cs δ', R cs δ' → Same G G' → Rel K (bov B H' (fps cs)) G' δ' σ H' → (∀ a ∈ fps cs, B a = none) → CellsOk K G' H' cs vs → Q vs H'
def upM (K : PySem.W.Frag) (w : DM) : TE := fun σ H Q => ∃ B G δ R, Rel K B G δ σ H ∧ w δ R ∧ ∀ v H' G' c δ', R c δ' → Same G G' → Rel K (bov B H' c.fp) G' δ' σ H' → (∀ a ∈ c.fp, B a = none) → CellOk K G' H' c (some v) → Q v H'
abbrev JM (X : Cx) (e : Expr) (w : DM) : Prop := PE X e (upM X.K w)
abbrev JMs (X : Cx) (es : List Expr) (w : DMs) : Prop := PA X es (upMs X.K w)
theorem bov_nil {B H : Hp} : bov B H [] = B := by funext a; simp [bov]
section
variable {X : Cx} {e : Expr} {es : List Expr} {pos : Pos}
def mE (w : DE) : DM := fun δ R => w δ fun o δ1 => lk o δ1 fun x δ2 => R (.d x) δ2
def mL (w : DL) : DM := fun δ R => w δ fun xs δ1 => ∀ a, R (.ol a xs) δ1
theorem jm_e {w : DE} (h : JE X e w) : JM X e (mE w) := pe_le h fun pins s σ H Q I ⟨B, G, δ, R, rel, hw, k⟩ => ⟨B, G, δ, _, rel, hw, fun v H1 G1 o δ1 r1 s1 rel1 ok1 => by
  obtain ⟨G2, δ2, x, q, s2, rel2, dn⟩ := lk_ok rel1 ok1 r1
  exact k v H1 G2 (.d x) δ2 q (s1.trans s2) (by show Rel X.K (bov B H1 []) G2 δ2 σ H1; rw [bov_nil]; exact rel2) (fun a m => nomatch m) ⟨v, rfl, dn⟩⟩
theorem jm_l {w : DL} (h : JL X e w) : JM X e (mL w) := pe_le h fun pins s σ H Q I ⟨B, G, δ, R, rel, hw, k⟩ => ⟨B, G, δ, _, rel, hw, fun a vs H1 G1 xs δ1 r1 s1 rel1 hB t => by
  have ha : H1 a = some (.lst vs) := rel1.sb _ _ upd_same
  have e : bov B H1 [a] = upd B a (.lst vs) := by
    funext b
    unfold bov upd
    by_cases hb : b = a
    · subst hb; simp [ha]
    · simp [hb]
  exact k (.ref a) H1 G1 (.ol a xs) δ1 (r1 a) s1 (by show Rel X.K (bov B H1 [a]) G1 δ1 σ H1; rw [e]; exact rel1) (fun b m => by rw [List.mem_singleton.mp m]; exact hB) ⟨rfl, vs, ha, t⟩⟩
def msNil : DMs := fun δ R => R [] δ
def msCons (w : DM) (r : DMs) : DMs := fun δ R => w δ fun c δ1 => r δ1 fun cs δ2 => R (c :: cs) δ2
theorem jms_nil : JMs X [] msNil := pa_le pa_nil fun pins s σ H Q I ⟨B, G, δ, R, rel, hw, k⟩ => k [] H G [] δ hw (Same.refl _) (by show Rel X.K (bov B H []) G δ σ H; rw [bov_nil]; exact rel) (fun a m => nomatch m) .nil
theorem jms_cons {w : DM} {r : DMs} (ha : JM X e w) (hr : JMs X es r) (hs : starEach (e :: es) X.env = (false, eval e X.env) :: starEach es X.env := by rfl) : JMs X (e :: es) (msCons w r) :=
  pa_le (pa_cons ha hr hs) fun pins s σ H Q I ⟨B, G, δ, R, rel, hw, k⟩ =>
    ⟨B, G, δ, _, rel, hw, fun v H1 G1 c δ1 r1 s1 rel1 hB1 ok1 => ⟨bov B H1 c.fp, G1, δ1, _, rel1, r1, fun vs H2 G2 cs δ2 r2 s2 rel2 hB2 ok2 => by
      have off : ∀ a ∈ c.fp, a ∉ fps cs := fun a m m2 => by
        have z := hB2 a m2
        unfold bov at z
        rw [if_pos m] at z
        obtain ⟨o, eo⟩ := cell_tr (K := X.K) (G := G1) ok1 m
        rw [eo] at z; cases z
      have same : ∀ a ∈ c.fp, H2 a = H1 a := fun a m => by
        obtain ⟨o, eo⟩ := cell_tr (K := X.K) (G := G1) ok1 m
        have z : bov (bov B H1 c.fp) H2 (fps cs) a = some o := by
          unfold bov
          rw [if_neg (off a m), if_pos m]; exact eo
        rw [rel2.sb _ _ z, eo]
      have eb : bov (bov B H1 c.fp) H2 (fps cs) = bov B H2 (fps (c :: cs)) := by
        funext a
        unfold bov
        by_cases h1 : a ∈ fps cs
        · have h3 : a ∈ fps (c :: cs) := by unfold fps; rw [List.flatMap_cons]; exact List.mem_append_right _ h1
          rw [if_pos h1, if_pos h3]
        · by_cases h2 : a ∈ c.fp
          · have h3 : a ∈ fps (c :: cs) := by unfold fps; rw [List.flatMap_cons]; exact List.mem_append_left _ h2
            rw [if_neg h1, if_pos h2, if_pos h3, same a h2]
          · have h3 : a ∉ fps (c :: cs) := by
              unfold fps; rw [List.flatMap_cons]; intro m
              rcases List.mem_append.mp m with m | m
              · exact h2 m
              · exact h1 m
            rw [if_neg h1, if_neg h2, if_neg h3]
      refine k (v :: vs) H2 G2 (c :: cs) δ2 r2 (s1.trans s2) (eb ▸ rel2) (fun a m => ?_) (.cons (ok1.stay s2 same) off ok2)
      unfold fps at m
      rw [List.flatMap_cons] at m
      rcases List.mem_append.mp m with m | m
      · exact hB1 a m
      · have z := hB2 a m
        unfold bov at z
        split at z
        · rename_i hm
          exact absurd m (off a hm)
        · exact z⟩⟩
end

section
variable {K : PySem.W.Frag} {B G H : Hp} {δ : DS} {σ : L2.St}
theorem Rel.store {c : Cell} {v : V} {i : Nat} {l : List Addr} (R : Rel K (bov B H (c.fp ++ l)) G δ σ H) (hB : ∀ a ∈ c.fp, B a = none) (hl : ∀ a ∈ c.fp, a ∉ l) (ok : CellOk K G H c (some v)) : Rel K (bov B H l) G (δ.set i c) (σ.set i (some v)) H := by
  have tr : ∀ a ∈ c.fp, ∃ o, H a = some o := fun a m => cell_tr ok m
  have bg : ∀ a ∈ c.fp, G a = none := fun a m => by
    rcases R.dj a with z | z
    · exact z
    · obtain ⟨o, eo⟩ := tr a m
      unfold bov at z
      rw [if_pos (List.mem_append_left _ m), eo] at z; cases z
  have bn : ∀ a ∈ c.fp, bov B H l a = none := fun a m => by
    unfold bov; rw [if_neg (hl a m)]; exact hB a m
  have sub : Same (bov B H l) H := fun a o z => by
    unfold bov at z
    split at z
    · exact z
    · by_cases m : a ∈ c.fp
      · rw [hB a m] at z; cases z
      · refine R.sb a o ?_
        unfold bov
        split
        · rename_i hm
          rcases List.mem_append.mp hm with q | q
          · exact absurd q m
          · rename_i hn; exact absurd q hn
        · exact z
  have R' : Rel K (bov B H l) G δ σ H := by
    refine ⟨R.len, R.sg, sub, fun a => ?_, R.ok, R.ap, fun i c' a e m => ?_, ⟨R.tt.t, ⟨fun a o e => ?_, R.tt.n.g⟩⟩⟩
    · rcases R.dj a with z | z
      · exact .inl z
      · by_cases m : a ∈ c.fp
        · exact .inr (bn a m)
        · refine .inr ?_
          unfold bov at z ⊢
          split
          · rename_i hm
            rw [if_pos (List.mem_append_right _ hm)] at z; exact z
          · rename_i hm
            rw [if_neg] at z
            · exact z
            · intro q
              rcases List.mem_append.mp q with q | q
              · exact m q
              · exact hm q
    · obtain ⟨f1, f2⟩ := R.fr i c' a e m
      refine ⟨f1, ?_⟩
      by_cases m2 : a ∈ c.fp
      · exact bn a m2
      · unfold bov at f2 ⊢
        split
        · rename_i hm
          rw [if_pos (List.mem_append_right _ hm)] at f2; exact f2
        · rename_i hm
          rw [if_neg] at f2
          · exact f2
          · intro q
            rcases List.mem_append.mp q with q | q
            · exact m2 q
            · exact hm q
    · unfold bov at e
      split at e
      · rename_i hm
        exact R.tt.n.b a o (by unfold bov; rw [if_pos (List.mem_append_right _ hm)]; exact e)
      · rename_i hm
        by_cases m2 : a ∈ c.fp
        · exact absurd e (by rw [hB a m2]; simp)
        · refine R.tt.n.b a o ?_
          unfold bov
          rw [if_neg fun q => (List.mem_append.mp q).elim m2 hm]
          exact e
  refine R'.set ok fun a m => ⟨⟨bg a m, bn a m⟩, fun j c' hj e m' => ?_⟩
  obtain ⟨_, f2⟩ := R.fr j c' a e m'
  obtain ⟨o, eo⟩ := tr a m
  unfold bov at f2
  rw [if_pos (List.mem_append_left _ m), eo] at f2; cases f2
end

structure DEnds where
  nx : DS → Prop
  rt : PyData → DS → Prop
  bk : DS → Prop := fun _ => False
  ct : DS → Prop := fun _ => False
abbrev DTS := DEnds → DS → Prop
structure EndsOk (K : PySem.W.Frag) (B G : Hp) (E : DEnds) (D : Ends) : Prop where
  nx : ∀ σ' H' G' δ', E.nx δ' → Same G G' → Rel K B G' δ' σ' H' → D.nx σ' H'
  rt : ∀ v σ' H' G' x δ', E.rt x δ' → Same G G' → Rel K B G' δ' σ' H' → Dn K G' v x → D.rt v H'
  bk : ∀ σ' H' G' δ', E.bk δ' → Same G G' → Rel K B G' δ' σ' H' → D.bk σ' H'
  ct : ∀ σ' H' G' δ', E.ct δ' → Same G G' → Rel K B G' δ' σ' H' → D.ct σ' H'
theorem EndsOk.mono {K : PySem.W.Frag} {B G G' : Hp} {E : DEnds} {D : Ends} (h : EndsOk K B G E D) (s : Same G G') : EndsOk K B G' E D :=
  ⟨fun σ' H' G2 δ' r s2 => h.nx σ' H' G2 δ' r (s.trans s2), fun v σ' H' G2 x δ' r s2 => h.rt v σ' H' G2 x δ' r (s.trans s2), fun σ' H' G2 δ' r s2 => h.bk σ' H' G2 δ' r (s.trans s2), fun σ' H' G2 δ' r s2 => h.ct σ' H' G2 δ' r (s.trans s2)⟩
def upS (K : PySem.W.Frag) (w : DTS) : TS := fun D σ H => ∃ B G δ E, Rel K B G δ σ H ∧ w E δ ∧ EndsOk K B G E D
abbrev JS (X : Cx) (st : Stmt) (w : DTS) : Prop := PS X st (upS X.K w)
abbrev JSs (X : Cx) (st : List Stmt) (w : DTS) : Prop := PSs X st (upS X.K w)
section
variable {X : Cx} {st : Stmt} {rest : List Stmt} {e : Expr} {pos : Pos}
theorem ps_le {t t' : TS} (h : PS X st t) (l : ∀ pins s σ H D, Inv X pins σ H s → t' D σ H → t D σ H) : PS X st t' := ⟨fun pins s σ H D I q => h.run pins s σ H D I (l pins s σ H D I q)⟩
theorem pss_le {t t' : TS} (h : PSs X rest t) (l : ∀ pins s σ H D, Inv X pins σ H s → t' D σ H → t D σ H) : PSs X rest t' := ⟨fun pins s σ H D I q => h.run pins s σ H D I (l pins s σ H D I q)⟩
def wNext : DTS := fun E δ => E.nx δ
def wSeq (t u : DTS) : DTS := fun E δ => t { E with nx := u E } δ
theorem jss_nil : JSs X [] wNext := pss_le pss_nil fun pins s σ H D I ⟨B, G, δ, E, rel, hw, k⟩ => k.nx σ H G δ hw (Same.refl _) rel
theorem jss_cons {t u : DTS} (h1 : JS X st t) (h2 : JSs X rest u) : JSs X (st :: rest) (wSeq t u) := pss_le (pss_cons h1 h2) fun pins s σ H D I ⟨B, G, δ, E, rel, hw, k⟩ =>
  ⟨B, G, δ, _, rel, hw, ⟨fun σ' H' G' δ' r s1 rel1 => ⟨B, G', δ', E, rel1, r, k.mono s1⟩, k.rt, k.bk, k.ct⟩⟩
theorem jss_one {t : DTS} (h : JS X st t) : JSs X [st] t := pss_one h
def wBrk : DTS := fun E δ => E.bk δ
def wCnt : DTS := fun E δ => E.ct δ
def wRet (w : DE) : DTS := fun E δ => w δ fun o δ1 => lk o δ1 fun x δ2 => E.rt x δ2
theorem js_ret {w : DE} (h : JE X e w) : JS X (.Return (some e) pos) (wRet w) := ps_le (ps_ret h) fun pins s σ H D I ⟨B, G, δ, E, rel, hw, k⟩ => ⟨B, G, δ, _, rel, hw, fun v H1 G1 o δ1 r1 s1 rel1 ok1 => by
  obtain ⟨G2, δ2, x, q, s2, rel2, dn⟩ := lk_ok rel1 ok1 r1
  exact k.rt v σ H1 G2 x δ2 q (s1.trans s2) rel2 dn⟩
def wRetN : DTS := fun E δ => E.rt .none δ
def wIf (c : DT) (t u : DTS) : DTS := fun E δ => c δ fun b δ1 => if b = true then t E δ1 else u E δ1
theorem js_if {c : Expr} {p q : List Stmt} {tc : DT} {t u : DTS} (hc : JT X c tc) (hp : JSs X p t) (hq : JSs X q u) : JS X (.If c p q pos) (wIf tc t u) := ps_le (ps_if hc hp hq) fun pins s σ H D I ⟨B, G, δ, E, rel, hw, k⟩ => ⟨B, G, δ, _, rel, hw, fun b H1 G1 δ1 r1 s1 rel1 => by
  cases b with
  | true => rw [if_pos rfl] at r1 ⊢; exact ⟨B, G1, δ1, E, rel1, r1, k.mono s1⟩
  | false => rw [if_neg Bool.false_ne_true] at r1 ⊢; exact ⟨B, G1, δ1, E, rel1, r1, k.mono s1⟩⟩
/-- a statement or block that is never come to -/
def wNever : DTS := fun _ _ => False
def wDrop (w : DE) : DTS := fun E δ => w δ fun _ δ1 => E.nx δ1
def wSet (i : Nat) (w : DM) : DTS := fun E δ => w δ fun c δ1 => E.nx (δ1.set i c)
theorem js_set {i : Nat} {x : Str} {w : DM} {pos' : Pos} (hN : X.N.Nodup) (hi : X.N[i]? = some x) (hx : Loc X.env.scope x) (he : JM X e w) (hs : swapsWith e (some (.Name x pos')) pos.line X.env = pure false := by rfl) (hf : X.fn x = true ∨ X.env.scope.names.lookup x = some .local := by first | exact .inl rfl | exact .inr rfl | assumption) :
    JS X (.Assign [.Name x pos'] e pos) (wSet i w) := ps_le (ps_set hN hi hx he hs hf) fun pins s σ H D I ⟨B, G, δ, E, rel, hw, k⟩ => ⟨B, G, δ, _, rel, hw, fun v H1 G1 c δ1 r1 s1 rel1 hB ok1 => by
  have R2 := Rel.store (i := i) (l := []) (by rw [List.append_nil]; exact rel1) hB (fun _ _ m => nomatch m) ok1
  rw [bov_nil] at R2
  exact k.nx _ H1 G1 _ r1 s1 R2⟩
/-- a, b = e1, e2 -/
def wPar2 (i j : Nat) (w : DMs) : DTS := fun E δ => w δ fun cs δ1 => ∃ c d, cs = [c, d] ∧ E.nx ((δ1.set i c).set j d)
theorem js_par2 {i j : Nat} {x y : Str} {a b : Expr} {w : DMs} {px py pt : Pos} {kt k2 pt2} (hc : X.calm = true) (hN : X.N.Nodup) (hi : X.N[i]? = some x) (hj : X.N[j]? = some y) (hij : i ≠ j) (hx : X.env.scope.names.lookup x = some .local) (hy : X.env.scope.names.lookup y = some .local) (ha : JMs X [a, b] w)
    (hw : swappedStores [.Tuple [.Name x px, .Name y py] kt pt] (.Tuple [a, b] k2 pt2) X.env = pure (some [x, y]) := by rfl) (hs : swapsWithSole [.Tuple [.Name x px, .Name y py] kt pt] (.Tuple [a, b] k2 pt2) pos.line X.env = pure false := by rfl) :
    JS X (.Assign [.Tuple [.Name x px, .Name y py] kt pt] (.Tuple [a, b] k2 pt2) pos) (wPar2 i j w) := ps_le (ps_par hc hN hi hj hij hx hy ha hw hs) fun pins s σ H D I ⟨B, G, δ, E, rel, hw, k⟩ => ⟨B, G, δ, _, rel, hw, fun vs H1 G1 cs δ1 r1 s1 rel1 hB ok1 => by
  obtain ⟨c, d, rfl, q⟩ := r1
  cases ok1 with
  | cons h1 d1 t1 =>
    cases t1 with
    | cons h2 d2 t2 =>
      cases t2
      rename_i v u
      refine ⟨v, u, rfl, ?_⟩
      have e : fps [c, d] = c.fp ++ (d.fp ++ []) := by simp [fps]
      rw [e] at rel1
      have R2 := Rel.store (i := i) rel1 (fun a m => hB a (by simp [fps, m])) (fun a m => by have := d1 a m; simpa [fps] using this) h1
      have R3 := Rel.store (i := j) R2 (fun a m => hB a (by simp [fps, m])) (fun a m z => nomatch z) h2
      rw [bov_nil] at R3
      exact k.nx _ H1 G1 _ q s1 R3⟩
/-- x op= e -/
def wAug (i : Nat) (p : P2) (w : DE) : DTS := fun E δ => ∃ x, δ[i]? = some (.d x) ∧ w δ fun o δ1 => use o δ1 fun y => p x y fun z => E.nx (δ1.set i (.d z))
end
end DL
set_option Elab.async false
set_option linter.all false
set_option maxRecDepth 100000
set_option maxHeartbeats 4000000
namespace DL
open PySem PySem.Spec PyProof.Rows L2
variable [Tb]

abbrev DTG := PyData → DS → (DS → Prop) → Prop
abbrev DTGs := List PyData → DS → (DS → Prop) → Prop
/-- only the slots ts are stored -/
def Only (σ σ' : L2.St) (ts : List Nat) : Prop := ∀ vs : List Nat, (∀ t ∈ ts, t ∈ vs) → wipe σ' vs = wipe σ vs
theorem wipe_set {σ : L2.St} {i : Nat} {o : Option V} : ∀ {vs : List Nat}, i ∈ vs → wipe (σ.set i o) vs = wipe σ vs := by
  intro vs
  induction vs with
  | nil => intro h; cases h
  | cons v vs ih =>
    intro h
    unfold wipe
    by_cases hi : i ∈ vs
    · rw [ih hi]
    · have e : i = v := by
        rcases List.mem_cons.mp h with z | z
        · exact z
        · exact absurd z hi
      subst e
      have out : ∀ (σ : L2.St) (ws : List Nat), i ∉ ws → wipe (σ.set i o) ws = (wipe σ ws).set i o := by
        intro σ ws
        induction ws with
        | nil => intro _; rfl
        | cons w ws ih2 =>
          intro hw
          unfold wipe
          rw [ih2 (fun z => hw (List.mem_cons_of_mem _ z)), List.set_comm _ _ (fun z => hw (by rw [z]; exact List.mem_cons_self ..))]
      rw [out σ vs hi, List.set_set]
theorem Only.refl (σ : L2.St) (ts : List Nat) : Only σ σ ts := fun _ _ => rfl
theorem Only.trans {σ σ1 σ2 : L2.St} {ts us : List Nat} (a : Only σ σ1 ts) (b : Only σ1 σ2 us) : Only σ σ2 (ts ++ us) := fun vs h =>
  (b vs fun t m => h t (List.mem_append_right _ m)).trans (a vs fun t m => h t (List.mem_append_left _ m))
def upG (K : PySem.W.Frag) (ts : List Nat) (g : DTG) : TG := fun v σ H Q => ∃ B G δ x R, Rel K B G δ σ H ∧ Dn K G v x ∧ g x δ R ∧ ∀ σ' H' G' δ', R δ' → Same G G' → Rel K B G' δ' σ' H' → Only σ σ' ts → Q σ' H'
def upGs (K : PySem.W.Frag) (ts : List Nat) (g : DTGs) : TGs := fun vs σ H Q => ∃ B G δ xs R, Rel K B G δ σ H ∧ DnL K G vs xs ∧ g xs δ R ∧ ∀ σ' H' G' δ', R δ' → Same G G' → Rel K B G' δ' σ' H' → Only σ σ' ts → Q σ' H'
abbrev JG (X : Cx) (tg : Expr) (ts : List Nat) (g : DTG) : Prop := PG X tg (upG X.K ts g)
abbrev JGs (X : Cx) (tg : List Expr) (ts : List Nat) (g : DTGs) : Prop := PGs X tg (upGs X.K ts g)
def gN (i : Nat) : DTG := fun x δ R => R (δ.set i (.d x))
def gsNil : DTGs := fun xs δ R => match xs with
  | [] => R δ
  | _ => False
def gsCons (g : DTG) (r : DTGs) : DTGs := fun xs δ R => match xs with
  | x :: xs => g x δ fun δ1 => r xs δ1 R
  | [] => False
def gT (r : DTGs) : DTG := fun x δ R => match x with
  | .tuple xs => r xs δ R
  | _ => False
section
variable {X : Cx} {pos : Pos}
theorem pg_le {tg : Expr} {t t' : TG} (h : PG X tg t) (l : ∀ pins s v σ H Q, Inv X pins σ H s → t' v σ H Q → t v σ H Q) : PG X tg t' := ⟨fun pins s σ H v u Q I r q => h.run pins s σ H v u Q I r (l pins s v σ H Q I q)⟩
theorem pgs_le {tg : List Expr} {t t' : TGs} (h : PGs X tg t) (l : ∀ pins s v σ H Q, Inv X pins σ H s → t' v σ H Q → t v σ H Q) : PGs X tg t' := ⟨fun pins s σ H v u Q I r q => h.run pins s σ H v u Q I r (l pins s v σ H Q I q)⟩
theorem jg_name {i : Nat} {x : Str} (hN : X.N.Nodup) (hi : X.N[i]? = some x) (hx : Loc X.env.scope x) (hf : X.fn x = true ∨ X.env.scope.names.lookup x = some .local := by first | exact .inl rfl | exact .inr rfl | assumption) : JG X (.Name x pos) [i] (gN i) :=
  pg_le (pg_name hN hi hx hf) fun pins s v σ H Q I ⟨B, G, δ, d, R, rel, dn, hw, k⟩ => k _ H G _ hw (Same.refl _) (rel.setD dn) fun vs h => wipe_set (h i (List.mem_singleton.mpr rfl))
theorem jgs_nil : JGs X [] [] gsNil := pgs_le pgs_nil fun pins s v σ H Q I ⟨B, G, δ, d, R, rel, dn, hw, k⟩ => by
  cases dn with
  | nil => exact ⟨rfl, k σ H G δ hw (Same.refl _) rel (Only.refl _ _)⟩
  | cons a b => exact hw.elim
theorem jgs_cons {e : Expr} {es : List Expr} {ts us : List Nat} {g : DTG} {r : DTGs} (h1 : JG X e ts g) (h2 : JGs X es us r) (hs : (assignEach (e :: es) X.env).map (·.2) = assign e X.env :: (assignEach es X.env).map (·.2) := by rfl) : JGs X (e :: es) (ts ++ us) (gsCons g r) :=
  pgs_le (pgs_cons h1 h2 hs) fun pins s v σ H Q I ⟨B, G, δ, d, R, rel, dn, hw, k⟩ => by
    cases dn with
    | nil => exact hw.elim
    | cons a b => exact ⟨_, _, rfl, B, G, δ, _, _, rel, a, hw, fun σ1 H1 G1 δ1 r1 s1 rel1 o1 => ⟨B, G1, δ1, _, _, rel1, b.mono s1, r1, fun σ2 H2 G2 δ2 r2 s2 rel2 o2 => k σ2 H2 G2 δ2 r2 (s1.trans s2) rel2 (o1.trans o2)⟩⟩
theorem jg_tup {es : List Expr} {kk : Nat} {ts : List Nat} {r : DTGs} {n : Nat} (hc : X.calm = true) (h : JGs X es ts r) (hr : ∀ xs δ R, r xs δ R → xs.length = n)
    (hn : (assignEach es X.env).length = n := by rfl) (hst : (assignEach es X.env).findIdx? (·.1) = none := by rfl) : JG X (.Tuple es kk pos) ts (gT r) :=
  pg_le (pg_tup hc h hn hst) fun pins s v σ H Q I ⟨B, G, δ, d, R, rel, dn, hw, k⟩ => by
    cases dn with
    | tup hs ht => exact ⟨_, _, rfl, sqT_mono rel.sg hs.sq, by rw [ht.len]; exact hr _ _ _ hw, B, G, δ, _, R, rel, ht, hw, k⟩
    | _ => exact hw.elim
end
theorem gs_len0 : ∀ xs δ R, gsNil xs δ R → xs.length = 0 := fun xs δ R h => by
  cases xs with
  | nil => rfl
  | cons x xs => exact h.elim
theorem gs_lenN {i : Nat} {r : DTGs} {n : Nat} (h : ∀ xs δ R, r xs δ R → xs.length = n) : ∀ xs δ R, gsCons (gN i) r xs δ R → xs.length = n + 1 := fun xs δ R q => by
  cases xs with
  | nil => exact q.elim
  | cons x xs => rw [List.length_cons, h xs _ R q]
theorem gs_lenT {t : DTGs} {r : DTGs} {n : Nat} (ht : ∀ xs δ R, t xs δ R → ∃ δ', R δ') (h : ∀ xs δ R, r xs δ R → xs.length = n) : ∀ xs δ R, gsCons (gT t) r xs δ R → xs.length = n + 1 := fun xs δ R q => by
  cases xs with
  | nil => exact q.elim
  | cons x xs =>
    have q' : gT t x δ fun δ1 => r xs δ1 R := q
    cases x with
    | tuple ys => obtain ⟨δ', z⟩ := ht ys δ _ q'; rw [List.length_cons, h xs _ R z]
    | _ => exact q'.elim
theorem gs_exN {i : Nat} {r : DTGs} (h : ∀ xs δ R, r xs δ R → ∃ δ', R δ') : ∀ xs δ R, gsCons (gN i) r xs δ R → ∃ δ', R δ' := fun xs δ R q => by
  cases xs with
  | nil => exact q.elim
  | cons x xs => exact h xs _ R q
theorem gs_ex0 : ∀ xs δ R, gsNil xs δ R → ∃ δ', R δ' := fun xs δ R q => by
  cases xs with
  | nil => exact ⟨δ, q⟩
  | cons x xs => exact q.elim

/-- J gives the items, whatever is done meanwhile -/
def WalkD (K : PySem.W.Frag) (J : It) (G : Hp) (xs : List PyData) : Prop := ∀ (B G2 : Hp) (δ : DS) (σ : L2.St) (H : Hp), Same G G2 → Rel K B G2 δ σ H →
  (∀ i, i < xs.length → J.go i H) ∧ J.stop xs.length H ∧ ∀ i x d H', xs[i]? = some d → J.yld i H x H' → ∃ G3, Same G2 G3 ∧ Rel K B G3 δ σ H' ∧ Dn K G3 x d
def upI (K : PySem.W.Frag) (w : DL) : TI := fun σ H R => ∃ B G δ R', Rel K B G δ σ H ∧ w δ R' ∧ ∀ J H' G' xs δ', R' xs δ' → Same G G' → Rel K B G' δ' σ H' → WalkD K J G' xs → xs.length ≤ sizeLine → R J H'
abbrev JI (X : Cx) (tg iter : Expr) (w : DL) : Prop := PI X tg iter (upI X.K w)
section
variable {X : Cx} {tg : Expr} {pos : Pos}
theorem pi_le {iter : Expr} {t t' : TI} (h : PI X tg iter t) (l : ∀ pins s σ H R, Inv X pins σ H s → t' σ H R → t σ H R) : PI X tg iter t' := ⟨fun pins s σ H R I q => h.run pins s σ H R I (l pins s σ H R I q)⟩
theorem walk_of_list {K : PySem.W.Frag} {G : Hp} {a : Addr} {vs : List V} {xs : List PyData} (h : G a = some (.lst vs)) (t : DnL K G vs xs) (inj : ∀ (B G2 : Hp) (δ : DS) (σ : L2.St) (H : Hp), Same G G2 → Rel K B G2 δ σ H → True) : WalkD K (Itl K a) G xs := fun B G2 δ σ H s rel => by
  have hH : SqL K H a vs := SqL.of (rel.sg _ _ (s _ _ h))
  have hl := t.len
  refine ⟨fun i hi => ⟨vs, vs[i]'(by omega), hH, List.getElem?_eq_getElem (by omega)⟩, ⟨vs, hH, by omega⟩, fun i x d H' hd y => ?_⟩
  obtain ⟨rfl, y⟩ := y
  obtain ⟨v, hv, dv⟩ := t.get hd
  have e := y vs hH
  rw [hv] at e; cases e
  exact ⟨G2, Same.refl _, rel, dv.mono s⟩
theorem walk_of_tup {K : PySem.W.Frag} {G : Hp} {a : Addr} {vs : List V} {xs : List PyData} (h : SqT K G a vs) (t : DnL K G vs xs) : WalkD K (Itt K a) G xs := fun B G2 δ σ H s rel => by
  have hH : SqT K H a vs := sqT_mono rel.sg (sqT_mono s h)
  have hl := t.len
  refine ⟨fun i hi => ⟨vs, vs[i]'(by omega), hH, List.getElem?_eq_getElem (by omega)⟩, ⟨vs, hH, by omega⟩, fun i x d H' hd y => ?_⟩
  obtain ⟨rfl, y⟩ := y
  obtain ⟨v, hv, dv⟩ := t.get hd
  have e := y vs hH
  rw [hv] at e; cases e
  exact ⟨G2, Same.refl _, rel, dv.mono s⟩
/-- for x in a tuple, a list -/
def iSeq (w : DE) : DL := fun δ R => w δ fun o δ1 => lk o δ1 fun x δ2 => match x with
  | .tuple xs => R xs δ2
  | .list xs => R xs δ2
  | _ => False
/-- iter of a tuple or a list -/
def iEither (K : PySem.W.Frag) (t : TE) : TI := fun σ H R => t σ H fun x H1 => ∃ a, x = .ref a ∧ ((∃ xs, SqL K H1 a xs ∧ R (Itl K a) H1) ∨ (∃ xs, SqT K H1 a xs ∧ R (Itt K a) H1))
theorem pi_either {l : Expr} {tl : TE} (hl : PE X l tl) : PI X tg l (iEither X.K tl) where
  run pins s σ H R I h := by
    refine wpAny_mono (hl.run pins s σ H _ I h) ?_ fun _ _ z => z
    rintro v ⟨hp, gs, dr, tk, os⟩ ⟨_, H1, I1, r1, a, rfl, q⟩
    cases r1
    have own : ∀ b ∈ [hp.objs.size], FpOk X pins H1 b := List.forall_mem_singleton.mpr (I1.fpOk (Nat.le_refl _) (I1.hok.fresh (Nat.le_refl _)))
    have kept : ∀ {o : Obj} b u, hp.get? b = some u → (hp.push o).get? b = some u := fun _ _ e => Heap.get?_push_of_some _ e
    rcases q with ⟨xs, isL, q⟩ | ⟨xs, isT, q⟩
    · obtain ⟨_, _, at_a, _⟩ := I1.list isL
      exact wpAny_pyIter_list at_a.isList ⟨_, _, _, _, H1, rfl, I1.kept (t' := tk) kept, turn_list a _, ⟨_, Heap.get?_push_size _ rfl, rfl, rfl⟩, own, q⟩
    · obtain ⟨its, _, at_a, _⟩ := I1.tuple isT
      exact wpAny_pyIter_tuple (show hp.IsTuple a its.toArray from at_a) ⟨_, _, _, _, H1, rfl, I1.kept (t' := tk) kept, turn_tuple a _, ⟨_, Heap.get?_push_size _ rfl, rfl, rfl⟩, own, q⟩
/-- what the length of a list or tuple is bounded by -/
theorem piB {l : Expr} {w : DE} (h : JE X l w) : PE X l (fun σ H Q => up X.K w σ H fun v H1 => (∀ a xs, v = .ref a → (SqL X.K H1 a xs ∨ SqT X.K H1 a xs) → xs.length ≤ sizeLine) → Q v H1) where
  run pins s σ H Q I q := wpAny_mono (h.run pins s σ H _ I q) (fun v s1 ⟨x, H1, I1, r1, q1⟩ => ⟨x, H1, I1, r1, q1 fun a xs _ hs => hs.elim (fun z => (I1.list z).elim fun _ z => z.2.2) (fun z => (I1.tuple z).elim fun _ z => z.2.2)⟩) fun _ _ z => z
theorem ji_seq {l : Expr} {w : DE} (h : JE X l w) : JI X tg l (iSeq w) := pi_le (pi_either (piB h)) fun pins s σ H R I ⟨B, G, δ, R', rel, hw, k⟩ => ⟨B, G, δ, _, rel, hw, fun v H1 G1 o δ1 r1 s1 rel1 ok1 hz => by
  obtain ⟨G2, δ2, x, q, s2, rel2, dn⟩ := lk_ok rel1 ok1 r1
  cases dn with
  | lst hs t => exact ⟨_, rfl, .inl ⟨_, SqL.of (rel2.sg _ _ hs), k _ H1 G2 _ δ2 q (s1.trans s2) rel2 (walk_of_list hs t fun _ _ _ _ _ _ _ => trivial) (by rw [← t.len]; exact hz _ _ rfl (.inl (SqL.of (rel2.sg _ _ hs))))⟩⟩
  | tup hs t => exact ⟨_, rfl, .inr ⟨_, sqT_mono rel2.sg (hs.sq), k _ H1 G2 _ δ2 q (s1.trans s2) rel2 (walk_of_tup (hs.sq) t) (by rw [← t.len]; exact hz _ _ rfl (.inr (sqT_mono rel2.sg (hs.sq))))⟩⟩
  | _ => exact q.elim⟩
/-- for i in range(n), range(m, n) -/
def nums (lo : Int) (n : Nat) : List PyData := (List.range n).map fun (i : Nat) => PyData.int (lo + (i : Int))
theorem walk_of_range {K : PySem.W.Frag} {G : Hp} {lo : Int} {n : Nat} : WalkD K (Itr lo n) G (nums lo n) := fun B G2 δ σ H s rel => by
  have hl : (nums lo n).length = n := by simp [nums]
  refine ⟨fun i hi => by rw [hl] at hi; exact hi, by rw [hl]; exact Nat.le_refl _, fun i x d H' hd y => ?_⟩
  obtain ⟨rfl, rfl⟩ := y
  unfold nums at hd
  rw [List.getElem?_map] at hd
  cases e : (List.range n)[i]? with
  | none => rw [e] at hd; cases hd
  | some j =>
    rw [e] at hd
    obtain ⟨h1, h2⟩ := List.getElem?_eq_some_iff.mp e
    rw [List.getElem_range] at h2
    cases hd
    subst h2
    exact ⟨G2, Same.refl _, rel, Dn.int _⟩
def iRange1 (w : DA) : DL := fun δ R => w δ fun os δ1 => useL os δ1 fun xs => ∃ j, xs = [PyData.int j] ∧ -1000000 ≤ j ∧ j ≤ 1000000 ∧ R (nums 0 j.toNat) δ1
def iRange2 (w : DA) : DL := fun δ R => w δ fun os δ1 => useL os δ1 fun xs => ∃ i j, xs = [PyData.int i, PyData.int j] ∧ (-1000000 ≤ i ∧ i ≤ 1000000 ∧ -1000000 ≤ j ∧ j ≤ 1000000) ∧ R (nums i (j - i).toNat) δ1
theorem nums_len {lo : Int} {n : Nat} : (nums lo n).length = n := by simp [nums]
theorem ji_range1 {a : Expr} {w : DA} {p : Pos} (hg : Gl X "range") (hm : X.mg "range" = none) (ha : JA X [a] w) (hs : starEach [a] X.env = [(false, eval a X.env)] := by rfl) : JI X tg (.Call (.Name "range" p) [a] [] pos) (iRange1 w) :=
  pi_le (pi_range1 hg hm ha hs) fun pins s σ H R I ⟨B, G, δ, R', rel, hw, k⟩ => ⟨B, G, δ, _, rel, hw, fun vs H1 G1 os δ1 r1 s1 rel1 ok1 => by
    obtain ⟨xs, ⟨j, rfl, h1, h2, q⟩, b⟩ := useL_ok rel1 ok1 r1
    obtain ⟨v, rfl, bv⟩ := b.one
    obtain rfl := bor_int bv
    exact ⟨j, rfl, by omega, by omega, k _ H1 G1 _ δ1 q s1 rel1 walk_of_range (by rw [nums_len, sizeLine_eq]; omega)⟩⟩
theorem ji_range2 {a b : Expr} {w : DA} {p : Pos} (hg : Gl X "range") (hm : X.mg "range" = none) (ha : JA X [a, b] w) (hs : starEach [a, b] X.env = [(false, eval a X.env), (false, eval b X.env)] := by rfl) (hs2 : starEach [b] X.env = [(false, eval b X.env)] := by rfl) : JI X tg (.Call (.Name "range" p) [a, b] [] pos) (iRange2 w) :=
  pi_le (pi_range2 hg hm ha hs hs2) fun pins s σ H R I ⟨B, G, δ, R', rel, hw, k⟩ => ⟨B, G, δ, _, rel, hw, fun vs H1 G1 os δ1 r1 s1 rel1 ok1 => by
    obtain ⟨xs, ⟨i, j, rfl, h1, q⟩, b⟩ := useL_ok rel1 ok1 r1
    obtain ⟨v, u, rfl, bv, bu⟩ := b.two
    obtain rfl := bor_int bv
    obtain rfl := bor_int bu
    exact ⟨i, j, rfl, ⟨by omega, by omega, by omega, by omega⟩, k _ H1 G1 _ δ1 q s1 rel1 walk_of_range (by rw [nums_len, sizeLine_eq]; omega)⟩⟩
/-- pairs -/
def pairsD : List PyData → List PyData → List PyData
  | x :: xs, y :: ys => .tuple [x, y] :: pairsD xs ys
  | _, _ => []
end
end DL
set_option Elab.async false
set_option linter.all false
set_option maxRecDepth 100000
set_option maxHeartbeats 4000000
namespace DL
open PySem PySem.Spec PyProof.Rows L2
variable [Tb]

def forIt (g : DTG) (b : DTS) : List PyData → DEnds → DS → Prop
  | [], E, δ => E.nx δ
  | x :: xs, E, δ => g x δ fun δ1 => b { nx := forIt g b xs E, rt := E.rt, bk := E.nx, ct := forIt g b xs E } δ1
def wFor (wi : DL) (g : DTG) (b : DTS) : DTS := fun E δ => wi δ fun xs δ1 => forIt g b xs E δ1
section
variable {X : Cx} {pos : Pos}
theorem js_for {tg iter : Expr} {body : List Stmt} {wi : DL} {g : DTG} {b : DTS} {ts : List Nat} (hp : PassesOwn (model X.prog X.w) X.A X.env X.xe) (hc : X.calm = true) (hi : JI X tg iter wi) (hg : JG X tg ts g) (hb : JSs X body b)
    (hs : ∀ x, foldedSetIterable iter X.env x = pure x := by intro _; rfl) : JS X (.For tg iter body [] pos) (wFor wi g b) := ps_le (ps_for hp hc hi hg hb hs) fun pins s σ H D I ⟨B, G, δ, E, rel, hw, k⟩ => by
  refine ⟨B, G, δ, _, rel, hw, fun J H1 G1 xs δ1 r1 s1 rel1 wk hl => ?_⟩
  refine ⟨fun i m σ' H' => m = xs.length - i ∧ i ≤ xs.length ∧ ∃ G2 δ2, Same G1 G2 ∧ Rel X.K B G2 δ2 σ' H' ∧ forIt g b (xs.drop i) E δ2, ⟨xs.length, by simp, Nat.zero_le _, G1, δ1, Same.refl _, rel1, by simpa using r1⟩, ?_⟩
  rintro i m σ2 H2 ⟨rfl, hi', G2, δ2, s2, rel2, q⟩
  obtain ⟨go, stop, yld⟩ := wk B G2 δ2 σ2 H2 s2 rel2
  by_cases hlt : i < xs.length
  · have ed : xs.drop i = xs[i] :: xs.drop (i + 1) := List.drop_eq_getElem_cons hlt
    rw [ed] at q
    refine .inr ⟨go i hlt, fun σ' H' => ∃ G3 δ3, Same G1 G3 ∧ Rel X.K B G3 δ3 σ' H' ∧ forIt g b (xs.drop (i + 1)) E δ3, fun σ' H' ⟨G3, δ3, s3, rel3, q3⟩ => ⟨xs.length - (i + 1), by omega, rfl, hlt, G3, δ3, s3, rel3, q3⟩, fun x H3 y => ?_⟩
    obtain ⟨G3, s3, rel3, dn⟩ := yld i x _ H3 (List.getElem?_eq_getElem hlt) y
    refine ⟨B, G3, δ2, _, _, rel3, dn, q, fun σ4 H4 G4 δ4 r4 s4 rel4 _ => ?_⟩
    have sa := s1.trans (s2.trans (s3.trans s4))
    exact ⟨B, G4, δ4, _, rel4, r4, ⟨fun σ' H' G5 δ5 r5 s5 rel5 => ⟨G5, δ5, s2.trans (s3.trans (s4.trans s5)), rel5, r5⟩, fun v σ' H' G5 x5 δ5 r5 s5 rel5 d5 => k.rt v σ' H' G5 x5 δ5 r5 (sa.trans s5) rel5 d5,
      fun σ' H' G5 δ5 r5 s5 rel5 => k.nx σ' H' G5 δ5 r5 (sa.trans s5) rel5, fun σ' H' G5 δ5 r5 s5 rel5 => ⟨G5, δ5, s2.trans (s3.trans (s4.trans s5)), rel5, r5⟩⟩⟩
  · have e : i = xs.length := by omega
    subst e
    rw [List.drop_length] at q
    exact .inl ⟨stop, k.nx σ2 H2 G2 δ2 q (s1.trans s2) rel2⟩
def wWhile (c : DT) (b : DTS) : DTS := fun E δ => ∃ W : Nat → DS → Prop, (∃ m, W m δ) ∧ ∀ m δ, W m δ → c δ fun k δ1 => if k = true then b { nx := fun δ' => ∃ m', m' < m ∧ W m' δ', rt := E.rt, bk := E.nx, ct := fun δ' => ∃ m', m' < m ∧ W m' δ' } δ1 else E.nx δ1
end

def wipeD (δ : DS) : List Nat → DS
  | [] => δ
  | v :: vs => (wipeD δ vs).set v .em
def keepC : Cell → Cell
  | .d x => .d x
  | _ => .em
def backD (δ0 δ : DS) : List Nat → DS
  | [] => δ
  | v :: vs => (backD δ0 δ vs).set v (keepC ((δ0[v]?).getD .em))
def compIt (g : DTG) (t : DT) (e : DE) (vs : List Nat) : List PyData → List PyData → DS → (List PyData → DS → Prop) → Prop
  | [], acc, δ, R => R acc δ
  | x :: xs, acc, δ, R => g x δ fun δ1 => t δ1 fun b δ2 => if b = true then e δ2 fun o δ3 => lk o δ3 fun y δ4 => compIt g t e vs xs (acc ++ [y]) (wipeD δ4 vs) R else compIt g t e vs xs acc (wipeD δ2 vs) R
def wComp (wi : DL) (g : DTG) (t : DT) (e : DE) (vs : List Nat) : DL := fun δ R => wi δ fun xs δ1 => compIt g t e vs xs [] (wipeD δ1 vs) fun ys δ2 => R ys (backD δ1 δ2 vs)
def tT : DT := fun δ R => R true δ
abbrev JTs (X : Cx) (es : List Expr) (w : DT) : Prop := PTs X es (upT X.K w)
section
variable {K : PySem.W.Frag} {B G H : Hp} {δ : DS} {σ : L2.St}
theorem Rel.wipe (R : Rel K B G δ σ H) : ∀ vs : List Nat, Rel K B G (wipeD δ vs) (L2.wipe σ vs) H
  | [] => R
  | v :: vs => (Rel.wipe R vs).clear none
theorem wipeD_em {i : Nat} : ∀ {vs : List Nat} {δ : DS}, i ∈ vs → (wipeD δ vs)[i]? = none ∨ (wipeD δ vs)[i]? = some .em
  | [], _, h => by cases h
  | v :: vs, δ, h => by
    unfold wipeD
    by_cases hv : v = i
    · subst hv
      rw [List.getElem?_set]
      simp only [if_true]
      split
      · exact .inr rfl
      · exact .inl rfl
    · rw [List.getElem?_set_ne hv]
      rcases List.mem_cons.mp h with z | z
      · exact absurd z.symm hv
      · exact wipeD_em z
theorem wipe_at {i : Nat} : ∀ {vs : List Nat} {σ : L2.St}, i ∉ vs → (L2.wipe σ vs)[i]? = σ[i]? := fun h => wipe_out h
theorem Rel.unwipe {vs : List Nat} {σ : L2.St} (R : Rel K B G (wipeD δ vs) (L2.wipe σ vs) H) : Rel K B G (wipeD δ vs) σ H := by
  refine ⟨by rw [← R.len, wipe_length], R.sg, R.sb, R.dj, fun i c o e1 e2 => ?_, R.ap, R.fr, R.tt⟩
  by_cases h : i ∈ vs
  · rcases wipeD_em (δ := δ) h with z | z
    · rw [z] at e1; cases e1
    · rw [z] at e1; cases e1; trivial
  · exact R.ok i c o e1 (by rw [wipe_at h]; exact e2)
theorem Rel.back {G0 : Hp} {δ0 : DS} {H0 : Hp} {B0 : Hp} (R : Rel K B G δ σ H) (R0 : Rel K B0 G0 δ0 σ H0) (s : Same G0 G) : ∀ vs : List Nat, Rel K B G (backD δ0 δ vs) σ H
  | [] => R
  | v :: vs => by
    have ih := Rel.back R R0 s vs
    have em : Rel K B G ((backD δ0 δ vs).set v .em) σ H := by
      cases hσ : σ[v]? with
      | some o => exact ih.recell hσ trivial fun a m => nomatch m
      | none =>
        have hl : (backD δ0 δ vs).length ≤ v := by
          rw [← ih.len]; exact List.getElem?_eq_none_iff.mp hσ
        rw [List.set_eq_of_length_le hl]; exact ih
    unfold backD
    cases e : δ0[v]? with
    | none => exact em
    | some c =>
      cases c with
      | d x =>
        obtain ⟨o, hσ, w, rfl, dn⟩ := R0.at e
        exact ih.recell hσ ⟨w, rfl, dn.mono s⟩ fun a m => nomatch m
      | _ => exact em
theorem wipe_wipe (σ : L2.St) (vs : List Nat) : L2.wipe (L2.wipe σ vs) vs = L2.wipe σ vs := by
  have h : ∀ (us : List Nat) (σ : L2.St), (∀ u ∈ us, u ∈ vs) → L2.wipe (L2.wipe σ us) vs = L2.wipe σ vs := by
    intro us
    induction us with
    | nil => intro σ _; rfl
    | cons u us ih =>
      intro σ hu
      show L2.wipe ((L2.wipe σ us).set u none) vs = _
      rw [wipe_set (hu u (List.mem_cons_self ..)), ih σ fun x m => hu x (List.mem_cons_of_mem _ m)]
  exact h vs σ fun _ m => m
end
section
variable {X : Cx} {pos : Pos}
theorem jts_nil : JTs X [] tT := ⟨fun pins s σ H Q I ⟨B, G, δ, R, rel, hw, k⟩ => pts_nil.run pins s σ H Q I (k true H G δ hw (Same.refl _) rel)⟩
theorem jts_one {c : Expr} {t : DT} (h : JT X c t) : JTs X [c] t := pts_one h
theorem comp_up {wi : DL} {g : DTG} {t : DT} {e : DE} {ts vs : List Nat} {K : PySem.W.Frag} {σ : L2.St} {H : Hp} {Q : VK} (hts : ∀ t ∈ ts, t ∈ vs) (h : upL K (wComp wi g t e vs) σ H Q) : tLc (upI K wi) (upG K ts g) (upT K t) (up K e) vs σ H Q := by
  obtain ⟨B, G, δ, R, rel, hw, k⟩ := h
  refine ⟨B, G, δ, _, rel, hw, fun J H1 G1 xs δ1 r1 s1 rel1 wk hl D nD => ?_⟩
  have bD := rel1.freeB nD
  refine ⟨fun i m H' => m = xs.length - i ∧ i ≤ xs.length ∧ ∃ accV accD G2 δ2, Same G1 G2 ∧ Rel K (upd B D (.lst accV)) G2 (wipeD δ2 vs) (wipe σ vs) H' ∧ DnL K G2 accV accD ∧ accV.length ≤ i ∧ compIt g t e vs (xs.drop i) accD (wipeD δ2 vs) (fun ys δ2 => R ys (backD δ1 δ2 vs)),
    ⟨xs.length, by simp, Nat.zero_le _, [], [], G1, δ1, Same.refl _, (rel1.growB nD).wipe vs, .nil, Nat.zero_le _, by simpa using r1⟩, ?_⟩
  rintro i m H2 ⟨rfl, hi, accV, accD, G2, δ2, s2, rel2, dacc, hal, q⟩
  obtain ⟨go, stop, yld⟩ := wk _ G2 _ _ H2 s2 rel2
  by_cases hlt : i < xs.length
  · have ed : xs.drop i = xs[i] :: xs.drop (i + 1) := List.drop_eq_getElem_cons hlt
    rw [ed] at q
    refine .inr ⟨go i hlt, fun H' => ∃ accV accD G3 δ3, Same G1 G3 ∧ Rel K (upd B D (.lst accV)) G3 (wipeD δ3 vs) (wipe σ vs) H' ∧ DnL K G3 accV accD ∧ accV.length ≤ i + 1 ∧ compIt g t e vs (xs.drop (i + 1)) accD (wipeD δ3 vs) (fun ys δ2 => R ys (backD δ1 δ2 vs)),
      fun H' ⟨a1, a2, a3, a4, a5, a6, a7, a8, a9⟩ => ⟨xs.length - (i + 1), by omega, rfl, hlt, a1, a2, a3, a4, a5, a6, a7, a8, a9⟩, fun x H3 y => ?_⟩
    obtain ⟨G3, s3, rel3, dn⟩ := yld i x _ H3 (List.getElem?_eq_getElem hlt) y
    refine ⟨_, G3, _, _, _, rel3, dn, q, fun σ4 H4 G4 δ4 r4 s4 rel4 ho => ?_⟩
    have ew : wipe σ4 vs = wipe σ vs := by rw [ho vs hts, wipe_wipe]
    refine ⟨ew, _, G4, δ4, _, rel4, r4, fun b H5 G5 δ5 r5 s5 rel5 => ?_⟩
    cases b with
    | false =>
      rw [if_neg Bool.false_ne_true] at r5 ⊢
      have R6 := rel5.wipe vs
      rw [ew] at R6
      exact ⟨accV, accD, G5, δ5, s2.trans (s3.trans (s4.trans s5)), R6, DnL.mono (s3.trans (s4.trans s5)) _ dacc, by omega, r5⟩
    | true =>
      rw [if_pos rfl] at r5 ⊢
      refine ⟨_, G5, δ5, _, rel5, r5, fun v H6 G6 o δ6 r6 s6 rel6 ok6 => ?_⟩
      obtain ⟨G7, δ7, z, q7, s7, rel7, dz⟩ := lk_ok rel6 ok6 r6
      refine ⟨accV, rel7.sb _ _ upd_same, by omega, accV ++ [v], accD ++ [z], G7, δ7, s2.trans (s3.trans (s4.trans (s5.trans (s6.trans s7)))), ?_, (DnL.mono (s3.trans (s4.trans (s5.trans (s6.trans s7)))) _ dacc).app (.cons dz .nil), by simp; omega, q7⟩
      have R8 := (rel7.putB (p := D) (o := .lst (accV ++ [v])) upd_same notTE_lst).wipe vs
      rw [upd_upd, ew] at R8
      exact R8
  · have e1 : i = xs.length := by omega
    subst e1
    rw [List.drop_length] at q
    refine .inl ⟨stop, ?_⟩
    exact k D accV H2 G2 accD _ q (s1.trans s2) (rel2.unwipe.back rel1 s2 vs) bD dacc
theorem jl_comp {elt tg iter : Expr} {ifs : List Expr} {scope : Scope} {own : List (Str × Nat)} {wi : DL} {g : DTG} {t : DT} {e : DE} {ts : List Nat} (hc : X.calm = true) (hN : X.N.Nodup) (hi : JI X tg iter wi) (ok : BlkOk X.N X.env.scope scope own) (hts : ∀ t ∈ ts, t ∈ own.map (·.2))
    (hg : ∀ (s : Shared) (H : Hp) (C : Addr) (cl : List (Str × Addr)) (fp : List Addr), JG (X.blk s H scope (compEnvC scope cl C X.env) fp) tg ts g) (ht : ∀ (s : Shared) (H : Hp) (C : Addr) (cl : List (Str × Addr)) (fp : List Addr), JTs (X.blk s H scope (compEnvC scope cl C X.env) fp) ifs t)
    (he : ∀ (s : Shared) (H : Hp) (C : Addr) (cl : List (Str × Addr)) (fp : List Addr), JE (X.blk s H scope (compEnvC scope cl C X.env) fp) elt e) (hs : ∀ x, foldedSetIterable iter X.env x = pure x := by intro _; rfl) :
    JL X (.ListComp elt [⟨tg, iter, ifs, 0⟩] scope pos) (wComp wi g t e (own.map (·.2))) :=
  pe_le (pe_lc hc hN hi ok hg ht he hs) fun _ _ _ _ _ _ h => comp_up hts h
theorem upM_l {w : DL} {K : PySem.W.Frag} {σ : L2.St} {H : Hp} {Q : VK} (h : upM K (mL w) σ H Q) : upL K w σ H Q := by
  obtain ⟨B, G, δ, R, rel, hw, k⟩ := h
  refine ⟨B, G, δ, _, rel, hw, fun a vs H1 G1 xs δ1 r1 s1 rel1 hB t => ?_⟩
  have ha : H1 a = some (.lst vs) := rel1.sb _ _ upd_same
  have e : bov B H1 [a] = upd B a (.lst vs) := by
    funext b
    unfold bov upd
    by_cases hb : b = a
    · subst hb; simp [ha]
    · simp [hb]
  exact k (.ref a) H1 G1 (.ol a xs) δ1 (r1 a) s1 (by show Rel K (bov B H1 [a]) G1 δ1 σ H1; rw [e]; exact rel1) (fun b m => by rw [List.mem_singleton.mp m]; exact hB) ⟨rfl, vs, ha, t⟩
theorem up_l {w : DL} {K : PySem.W.Frag} {σ : L2.St} {H : Hp} {Q : VK} (h : up K (wOfL w) σ H Q) : upL K w σ H Q := by
  obtain ⟨B, G, δ, R, rel, hw, k⟩ := h
  refine ⟨B, G, δ, _, rel, hw, fun a vs H' G' xs δ' r sG rel' hB t => ?_⟩
  obtain ⟨rel2, s2⟩ := rel'.takeB (p := a) hB (fun b hb => (upd_ne hb).symm) upd_same
  exact k _ H' _ _ _ r (sG.trans s2) rel2 (Dn.lst upd_same (t.mono s2))
theorem upM_e {w : DE} {K : PySem.W.Frag} {σ : L2.St} {H : Hp} {Q : VK} (h : upM K (mE w) σ H Q) : up K w σ H Q := by
  obtain ⟨B, G, δ, R, rel, hw, k⟩ := h
  refine ⟨B, G, δ, _, rel, hw, fun v H1 G1 o δ1 r1 s1 rel1 ok1 => ?_⟩
  obtain ⟨G2, δ2, x, q, s2, rel2, dn⟩ := lk_ok rel1 ok1 r1
  exact k v H1 G2 (.d x) δ2 q (s1.trans s2) (by show Rel K (bov B H1 []) G2 δ2 σ H1; rw [bov_nil]; exact rel2) (fun a m => nomatch m) ⟨v, rfl, dn⟩
/-- a statement name = value, by the value's way -/
theorem js_asg {st : Stmt} {i : Nat} {te : TE} {w : DM} (h : PS X st (tAsg te (gName i))) (l : ∀ σ H Q, upM X.K w σ H Q → te σ H Q) : JS X st (wSet i w) := ps_le h fun pins s σ H D I ⟨B, G, δ, E, rel, hw, k⟩ => by
  refine l σ H _ ⟨B, G, δ, _, rel, hw, fun v H1 G1 c δ1 r1 s1 rel1 hB ok1 => ?_⟩
  have R2 := Rel.store (i := i) (l := []) (by rw [List.append_nil]; exact rel1) hB (fun _ _ m => nomatch m) ok1
  rw [bov_nil] at R2
  exact k.nx _ H1 G1 _ r1 s1 R2
/-- x = [..], one's own -/
theorem js_setCL {i : Nat} {y : Str} {py spos : Pos} {elt tg iter : Expr} {ifs : List Expr} {scope : Scope} {own : List (Str × Nat)} {wi : DL} {g : DTG} {t : DT} {e : DE} {ts : List Nat} (hc : X.calm = true) (hN : X.N.Nodup) (hy : X.N[i]? = some y) (hyl : X.env.scope.names.lookup y = some .local)
    (hsw : swapsWith (.ListComp elt [⟨tg, iter, ifs, 0⟩] scope pos) (some (.Name y py)) spos.line X.env = pure true) (hi : JI X tg iter wi) (ok : BlkOk X.N X.env.scope scope own) (hts : ∀ t ∈ ts, t ∈ own.map (·.2))
    (hg : ∀ (s : Shared) (H : Hp) (C : Addr) (cl : List (Str × Addr)) (fp : List Addr), JG (X.blk s H scope (compEnvC scope cl C X.env) fp) tg ts g) (ht : ∀ (s : Shared) (H : Hp) (C : Addr) (cl : List (Str × Addr)) (fp : List Addr), JTs (X.blk s H scope (compEnvC scope cl C X.env) fp) ifs t)
    (he : ∀ (s : Shared) (H : Hp) (C : Addr) (cl : List (Str × Addr)) (fp : List Addr), JE (X.blk s H scope (compEnvC scope cl C X.env) fp) elt e) (hs : ∀ x, foldedSetIterable iter X.env x = pure x := by intro _; rfl) :
    JS X (.Assign [.Name y py] (.ListComp elt [⟨tg, iter, ifs, 0⟩] scope pos) spos) (wSet i (mL (wComp wi g t e (own.map (·.2))))) :=
  js_asg (ps_setLc hc hN hy hyl hsw hi ok hg ht he hs) fun σ H Q h => comp_up hts (upM_l h)
def isOl (δ : DS) (i : Nat) : Prop := ∃ a xs, δ[i]? = some (.ol a xs)
def wAppend (i : Nat) (w : DE) : DTS := fun E δ => isOl δ i ∧ w δ fun o δ1 => lk o δ1 fun y δ2 => match δ2[i]? with
  | some (.ol a xs) => xs.length ≤ 1000000 ∧ E.nx (δ2.set i (.ol a (xs ++ [y])))
  | _ => False
theorem js_append {i : Nat} {e : Expr} {x : Str} {w : DE} {px apos cpos : Pos} (hx : PE X (.Name x px) (tVar i)) (he : JE X e w) (hs : swapsWith (.Call (.Attribute (.Name x px) "append" apos) [e] [] cpos) none pos.line X.env = pure false := by rfl) (hsE : starEach [e] X.env = (false, eval e X.env) :: starEach [] X.env := by rfl)
    (hb : PE X (.Call (.Attribute (.Name x px) "append" apos) [e] [] cpos) (tBM X.K "list" rAppend (tVar i) (tCons (up X.K w) tNil))) : JS X (.Expr (.Call (.Attribute (.Name x px) "append" apos) [e] [] cpos) pos) (wAppend i w) :=
  ps_le (ps_expr hb hs) fun pins s σ H D I ⟨B, G, δ, E, rel, ⟨⟨a, xs, hδ⟩, hw⟩, k⟩ => by
    obtain ⟨o, hσ, rfl, vs, ha, t⟩ := rel.at hδ
    refine ⟨.ref a, hσ, .inl ⟨rfl, _, SqL.of ha⟩, B, G, δ, _, rel, hw, fun v H1 G1 o δ1 r1 s1 rel1 ok1 => ?_⟩
    obtain ⟨G2, δ2, y, q, s2, rel2, dn⟩ := lk_ok rel1 ok1 r1
    cases e2 : δ2[i]? with
    | none => rw [e2] at q; exact q.elim
    | some c =>
      rw [e2] at q
      cases c with
      | ol b ys =>
        obtain ⟨o2, hσ2, e3, ws, hb, t2⟩ := rel2.at e2
        rw [hσ] at hσ2
        cases hσ2
        cases e3
        obtain ⟨q1, q2⟩ := q
        refine ⟨a, ws, v, rfl, rfl, hb, by rw [t2.len, sizeLine_eq]; omega, ?_⟩
        exact k.nx _ _ G2 _ q2 (s1.trans s2) (rel2.write e2 (t2.app (.cons dn .nil)))
      | _ => exact q.elim
def wExtend (i : Nat) (w : DE) : DTS := fun E δ => isOl δ i ∧ w δ fun o δ1 => use o δ1 fun y => ∃ ys, y = .list ys ∧ match δ1[i]? with
  | some (.ol a xs) => xs.length + ys.length ≤ 1000000 ∧ E.nx (δ1.set i (.ol a (xs ++ ys)))
  | _ => False
theorem js_extend {i : Nat} {e : Expr} {x : Str} {w : DE} {px apos cpos : Pos} (hx : PE X (.Name x px) (tVar i)) (he : JE X e w) (hs : swapsWith (.Call (.Attribute (.Name x px) "extend" apos) [e] [] cpos) none pos.line X.env = pure false := by rfl) (hsE : starEach [e] X.env = (false, eval e X.env) :: starEach [] X.env := by rfl)
    (hb : PE X (.Call (.Attribute (.Name x px) "extend" apos) [e] [] cpos) (tBM X.K "list" rExtend (tVar i) (tCons (up X.K w) tNil))) : JS X (.Expr (.Call (.Attribute (.Name x px) "extend" apos) [e] [] cpos) pos) (wExtend i w) :=
  ps_le (ps_expr hb hs) fun pins s σ H D I ⟨B, G, δ, E, rel, ⟨⟨a, xs, hδ⟩, hw⟩, k⟩ => by
    obtain ⟨o, hσ, rfl, vs, ha, t⟩ := rel.at hδ
    refine ⟨.ref a, hσ, .inl ⟨rfl, _, SqL.of ha⟩, B, G, δ, _, rel, hw, fun v H1 G1 o δ1 r1 s1 rel1 ok1 => ?_⟩
    obtain ⟨y, ⟨ys, rfl, q⟩, by'⟩ := use_ok rel1 ok1 r1
    obtain ⟨b, zs, rfl, hb, tb⟩ := bor_lst rel1 by'
    cases e2 : δ1[i]? with
    | none => rw [e2] at q; exact q.elim
    | some c =>
      rw [e2] at q
      cases c with
      | ol a' ws =>
        obtain ⟨o2, hσ2, e3, us, hu, t2⟩ := rel1.at e2
        rw [hσ] at hσ2
        cases hσ2
        cases e3
        obtain ⟨q1, q2⟩ := q
        refine ⟨a, b, us, zs, rfl, rfl, hu, hb, by rw [t2.len, tb.len]; exact million q1, ?_⟩
        exact k.nx _ _ G1 _ q2 s1 (rel1.write e2 (t2.app tb))
      | _ => exact q.elim
/-- x[i] = e -/
def wPut (i : Nat) (we wi : DE) : DTS := fun E δ => we δ fun o δ1 => lk o δ1 fun y δ2 => isOl δ2 i ∧ wi δ2 fun oj δ3 => use oj δ3 fun j => match j, δ3[i]? with
  | .int j, some (.ol a xs) => ∃ n, ixN xs.length j = some n ∧ E.nx (δ3.set i (.ol a (xs.set n y)))
  | _, _ => False
/-- x.pop() of a list of one's own -/
def wPop (i : Nat) : DE := fun δ R => match δ[i]? with
  | some (.ol a xs) => ∃ y, xs.getLast? = some y ∧ R (.d y) (δ.set i (.ol a xs.dropLast))
  | _ => False
end
end DL
set_option Elab.async false
set_option linter.all false
set_option maxRecDepth 100000
set_option maxHeartbeats 4000000
namespace DL
open PySem PySem.Spec PyProof.Rows L2
variable [Tb]

structure RoomG (k : Nat) (A : Around) : Prop where
  rm : Room k A
  gd : A.guards = some []
theorem RoomG.mono {j k : Nat} {A : Around} (r : RoomG k A) (h : j ≤ k) : RoomG j A := ⟨r.rm.mono h, r.gd⟩
theorem RoomG.deeper {k : Nat} {A : Around} (r : RoomG (k + 1) A) (env : Env) : RoomG k (A.deeper env) := ⟨r.rm.deeper env, r.gd⟩
theorem RoomG.u64 {k : Nat} {A : Around} (r : RoomG k A) : A.units + 64 < cLine := r.rm.units
theorem RoomG.u65 {k : Nat} {A : Around} (r : RoomG k A) : A.units + 65 < cLine := by have := r.rm.un; omega
structure FnG (P : Program) (w : World) (K : PySem.W.Frag) (mg : Str → Option Value) (base : Heap) (CX : CXT) (k : Nat) (f : Addr) (fd : FuncData) (ps : List Str) (sp : Sp) : Prop where
  len (vs : List V) (H : Hp) (Q : VK) (E : XK) (_ : sp vs H Q E) : vs.length = ps.length
  run : ∀ (A : Around) (outer : List Env) (s : Shared) (H : Hp) (args : Args) (us : List Value) (vs : List V) (Q : VK) (E : XK), RoomG k A → Env0 P w K mg base A outer s H →
    BindsTo s fd args (ps.zip us) → Vals vs us → sp vs H Q E → codeAny (model P w) A (.call (.ref f) args) (CR CX outer P w H s Q E) s
section
variable {P : Program} {w : World} {K : PySem.W.Frag} {mg : Str → Option Value} {base : Heap} {CX : CXT}
theorem FnG.mono {j k : Nat} {f : Addr} {fd : FuncData} {ps : List Str} {sp : Sp} (F : FnG P w K mg base CX j f fd ps sp) (h : j ≤ k) : FnG P w K mg base CX k f fd ps sp :=
  ⟨F.len, fun A outer s H args us vs Q E hr => F.run A outer s H args us vs Q E (hr.mono h)⟩
theorem fnG_of {k : Nat} {f : Addr} {name qual : Str} {params : Arguments} {body : List Stmt} {scope : Scope} {dV kV doc pm cdv ct oc : Value} {an od : Option Addr} {osl : Array (Option Value)} {N ps : List Str} {sp : Sp}
    (lk : K.lookup f = some ⟨oc, od, .func (PySem.W.fnOf name qual params body scope dV kV doc pm an cdv ct), osl⟩) (hcd : PySem.W.codeIn K cdv qual = true) (S : FnScope N ps scope) (len : ∀ vs H Q E, sp vs H Q E → vs.length = ps.length)
    (hbody : ∀ (A : Around) (outer : List Env) (s : Shared) (H : Hp) (vs : List V) (Q : VK) (E : XK), RoomG k (A.deeper (envOfC qual scope s.heap.objs.size f cdv)) → sp vs H Q E →
      ∃ t, PSs (cxOf CX P w K mg base N qual scope f cdv A outer s H E) body t ∧ t { nx := fun _ H' => Q .non H', rt := Q } (L2.start N vs) H) : FnG P w K mg base CX (k + 1) f (PySem.W.fnOf name qual params body scope dV kV doc pm an cdv ct) ps sp := by
  refine ⟨len, ?_⟩
  intro A outer s H args us vs Q E room e0 binds r hsp
  have many : vs.length = ps.length := len _ _ _ _ hsp
  have kept : ∀ b o, base.get? b = some o → s.heap.get? b = some o := fun b o e => (e0.bs b o e).1
  have kinds : ∀ y ∈ ps.zip us, scope.names.lookup y.1 = some .local ∨
      (scope.names.lookup y.1 = some .cell ∧ ((cellsFrom (s.heap.objs.size + 1) scope.names []).lookup y.1).isSome = true) := by
    rintro ⟨n, v⟩ m
    rcases S.par n (List.of_mem_zip m).1 with q | q
    · exact .inl q
    · exact .inr ⟨q, PySem.W.cellsFrom_some _ _ _ (.inl q)⟩
  have kin := e0.mod.kin.keeps kept
  refine codeAny_call_function room.rm.depth (kin _ _ lk) rfl S.co S.gen rfl (PySem.W.codeRec_of kin hcd) (binds _ _ _ _ (wpAny_newFunctionEnv_cells S.kind kinds ?_))
  rintro _ rfl s1 made
  obtain ⟨t, body', ht⟩ := hbody A outer s H vs Q E (room.deeper _) hsp
  refine ⟨(e0.mod.nolimit.keeps kept).keeps made.toInCall.keep, codeAny_func (wpAny_mono (body'.run [] s1 (L2.start N vs) H _ (inv_start (CX := CX) (E := E) (N := N) (qual := qual) (f := f) (cd := cdv) S room.rm.hd e0 many r made) ht) ?_ fun _ _ z => z)⟩
  rintro (_ | _ | _ | u) s' g
  · obtain ⟨_, H', J, q⟩ := g; exact ⟨V.non, H', J.os, J.bare, J.base, J.hok, rfl, q⟩
  · exact g.elim fun _ g => g.elim fun _ g => g.2.elim
  · exact g.elim fun _ g => g.elim fun _ g => g.2.elim
  · obtain ⟨v, _, H', J, rv, q⟩ := g; exact ⟨v, H', J.os, J.bare, J.base, J.hok, rv, q⟩
end

abbrev DSp := List Cell → (PyData → List Cell → Prop) → Prop
def liftSp (K : PySem.W.Frag) (sp : DSp) : Sp := fun vs H Q _ => ∃ B G cs R, Rel K B G cs (vs.map some) H ∧ sp cs R ∧ ∀ v H' G' x cs', R x cs' → Same G G' → Rel K B G' cs' (vs.map some) H' → Dn K G' v x → Q v H'
/-- what the arguments' cells are behind the call: data stays, one's own is as the slot tells -/
def outC : List Cell → DS → List Cell
  | [], _ => []
  | .d x :: cs, _ :: δ => .d x :: outC cs δ
  | .em :: cs, _ :: δ => .em :: outC cs δ
  | .scr a ns :: cs, _ :: δ => .scr a ns :: outC cs δ
  | .dx a b c xs n ys :: cs, _ :: δ => .dx a b c xs n ys :: outC cs δ
  | _ :: cs, e :: δ => e :: outC cs δ
  | _, [] => []
def sameIo : List Cell → DS → Prop
  | [], _ => True
  | .ol a _ :: cs, e :: δ => (∃ ys, e = .ol a ys) ∧ sameIo cs δ
  | .dk a b c :: cs, e :: δ => e = .dk a b c ∧ sameIo cs δ
  | .dx .. :: cs, e :: δ => False
  | .xc .. :: cs, e :: δ => False
  | .fv .. :: cs, e :: δ => False
  | .od a _ :: cs, e :: δ => (∃ ys, e = .od a ys) ∧ sameIo cs δ
  | .ob a n _ :: cs, e :: δ => (∃ ys, e = .ob a n ys) ∧ sameIo cs δ
  | .gx t :: cs, e :: δ => (∃ u, e = .gx u ∧ u.hd = t.hd) ∧ sameIo cs δ
  | _ :: cs, _ :: δ => sameIo cs δ
  | _ :: _, [] => False
theorem outC_at : ∀ {cs : List Cell} {δ : DS} {i : Nat} {c : Cell}, sameIo cs δ → (outC cs δ)[i]? = some c → ∃ c0, cs[i]? = some c0 ∧ (((∃ x, c0 = .d x) ∨ c0 = .em ∨ ∃ a ns, c0 = .scr a ns) ∧ c = c0 ∨ (∃ a xs ys, c0 = .ol a xs ∧ c = .ol a ys ∧ δ[i]? = some c) ∨ (∃ a b d, c0 = .dk a b d ∧ c = c0 ∧ δ[i]? = some c) ∨ (∃ a xs ys, c0 = .od a xs ∧ c = .od a ys ∧ δ[i]? = some c) ∨ (∃ a n xs ys, c0 = .ob a n xs ∧ c = .ob a n ys ∧ δ[i]? = some c) ∨ (∃ t u, c0 = .gx t ∧ c = .gx u ∧ u.hd = t.hd ∧ δ[i]? = some c))
  | [], _, _, _, _, h => by simp [outC] at h
  | c0 :: cs, [], _, _, s, h => by cases c0 <;> exact s.elim
  | c0 :: cs, e :: δ, 0, c, s, h => by
    refine ⟨c0, rfl, ?_⟩
    cases c0 with
    | em => simp [outC] at h; exact .inl ⟨.inr (.inl rfl), h.symm⟩
    | scr a ns => simp [outC] at h; exact .inl ⟨.inr (.inr ⟨a, ns, rfl⟩), h.symm⟩
    | dx => exact s.elim
    | xc => exact s.elim
    | fv => exact s.elim
    | d x => simp [outC] at h; exact .inl ⟨.inl ⟨x, rfl⟩, h.symm⟩
    | ol a xs => simp [outC] at h; obtain ⟨⟨ys, e1⟩, _⟩ := s; exact .inr (.inl ⟨a, xs, ys, rfl, by rw [← h, e1], by simp [h]⟩)
    | dk a b d => simp [outC] at h; obtain ⟨e1, _⟩ := s; exact .inr (.inr (.inl ⟨a, b, d, rfl, by rw [← h, e1], by simp [h]⟩))
    | od a xs => simp [outC] at h; obtain ⟨⟨ys, e1⟩, _⟩ := s; exact .inr (.inr (.inr (.inl ⟨a, xs, ys, rfl, by rw [← h, e1], by simp [h]⟩)))
    | ob a n xs => simp [outC] at h; obtain ⟨⟨ys, e1⟩, _⟩ := s; exact .inr (.inr (.inr (.inr (.inl ⟨a, n, xs, ys, rfl, by rw [← h, e1], by simp [h]⟩))))
    | gx t => simp [outC] at h; obtain ⟨⟨u, e1, e2⟩, _⟩ := s; exact .inr (.inr (.inr (.inr (.inr ⟨t, u, rfl, by rw [← h, e1], e2, by simp [h]⟩))))
  | c0 :: cs, e :: δ, i + 1, c, s, h => by
    have s' : sameIo cs δ := by cases c0 <;> first | exact s | exact s.2 | exact s.elim
    have h' : (outC cs δ)[i]? = some c := by cases c0 <;> simpa [outC] using h
    obtain ⟨c1, e1, q⟩ := outC_at s' h'
    refine ⟨c1, by simpa using e1, ?_⟩
    simpa using q
theorem outC_len : ∀ {cs : List Cell} {δ : DS}, sameIo cs δ → (outC cs δ).length = cs.length
  | [], _, _ => rfl
  | c0 :: cs, [], s => by cases c0 <;> exact s.elim
  | c0 :: cs, e :: δ, s => by
    have s' : sameIo cs δ := by cases c0 <;> first | exact s | exact s.2 | exact s.elim
    cases c0 <;> simp [outC, outC_len s']
def endsOf (cs : List Cell) (R : PyData → List Cell → Prop) : DEnds := { nx := fun δ => sameIo cs δ ∧ R .none (outC cs δ), rt := fun x δ => sameIo cs δ ∧ R x (outC cs δ) }
def start0 (n : Nat) (cs : List Cell) : DS := cs ++ List.replicate (n - cs.length) .em
section
variable {P : Program} {w : World} {K : PySem.W.Frag} {mg : Str → Option Value} {base : Heap}
theorem rel_start {B G H : Hp} {cs : List Cell} {vs : List V} {N : List Str} (R : Rel K B G cs (vs.map some) H) : Rel K B G (start0 N.length cs) (L2.start N vs) H := by
  have hl : vs.length = cs.length := by have := R.len; simpa using this
  have get : ∀ {i : Nat} {c : Cell}, (start0 N.length cs)[i]? = some c → cs[i]? = some c ∨ c = Cell.em := fun {i c} e => by
    unfold start0 at e
    by_cases hi : i < cs.length
    · rw [List.getElem?_append_left hi] at e; exact .inl e
    · rw [List.getElem?_append_right (by omega), List.getElem?_replicate] at e
      split at e
      · cases e; exact .inr rfl
      · cases e
  refine ⟨by simp [start0, L2.start, hl], R.sg, R.sb, R.dj, fun i c o e1 e2 => ?_, fun i j c c' a e1 e2 m1 m2 => ?_, fun i c a e m => ?_, R.tt⟩
  · rcases get e1 with q | rfl
    · have hi : i < cs.length := (List.getElem?_eq_some_iff.mp q).1
      unfold L2.start at e2
      rw [List.getElem?_append_left (by rw [List.length_map, hl]; exact hi)] at e2
      exact R.ok i c o q e2
    · trivial
  · rcases get e1 with q1 | rfl
    · rcases get e2 with q2 | rfl
      · exact R.ap i j c c' a q1 q2 m1 m2
      · cases m2
    · cases m1
  · rcases get e with q | rfl
    · exact R.fr i c a q m
    · cases m
theorem rel_end {B G G' H H' : Hp} {cs : List Cell} {vs : List V} {δ : DS} {σ : L2.St} (R0 : Rel K B G cs (vs.map some) H) (R : Rel K B G' δ σ H') (s : Same G G') (io : sameIo cs δ) : Rel K B G' (outC cs δ) (vs.map some) H' := by
  refine ⟨by rw [outC_len io, ← R0.len], R.sg, R.sb, R.dj, fun i c o e1 e2 => ?_, fun i j c c' a e1 e2 m1 m2 => ?_, fun i c a e m => ?_, R.tt⟩
  · obtain ⟨c0, e0, q⟩ := outC_at io e1
    have ok0 := R0.ok i c0 o e0 e2
    rcases q with ⟨h, rfl⟩ | ⟨a, xs, ys, rfl, rfl, ed⟩ | ⟨a, b, d, rfl, rfl, ed⟩ | ⟨a, xs, ys, rfl, rfl, ed⟩ | ⟨a, n, xs, ys, rfl, rfl, ed⟩ | ⟨t, u, rfl, rfl, eh, ed⟩
    · rcases h with ⟨x, rfl⟩ | rfl | ⟨a, ns, rfl⟩
      · obtain ⟨v, e, dn⟩ := ok0; exact ⟨v, e, dn.mono s⟩
      · trivial
      · exact ⟨ok0.1, s.seq ok0.2⟩
    · obtain ⟨o', _, _, r⟩ := R.at ed
      exact ⟨ok0.1, r⟩
    · obtain ⟨o', _, _, r⟩ := R.at ed
      exact ⟨ok0.1, r⟩
    · obtain ⟨o', _, _, r⟩ := R.at ed
      exact ⟨ok0.1, r⟩
    · obtain ⟨o', _, _, r⟩ := R.at ed
      exact ⟨ok0.1, r⟩
    · obtain ⟨o', _, _, r⟩ := R.at ed
      exact ⟨by rw [eh]; exact ok0.1, r⟩
  · obtain ⟨c0, e0, q⟩ := outC_at io e1
    obtain ⟨c1, e3, q'⟩ := outC_at io e2
    have h1 : δ[i]? = some c := by
      rcases q with ⟨h, rfl⟩ | ⟨a, xs, ys, rfl, rfl, ed⟩ | ⟨a, b, d, rfl, rfl, ed⟩ | ⟨a, xs, ys, rfl, rfl, ed⟩ | ⟨a, n, xs, ys, rfl, rfl, ed⟩ | ⟨t, u, rfl, rfl, eh, ed⟩
      · rcases h with ⟨x, rfl⟩ | rfl | ⟨a, ns, rfl⟩ <;> cases m1
      · exact ed
      · exact ed
      · exact ed
      · exact ed
      · exact ed
    have h2 : δ[j]? = some c' := by
      rcases q' with ⟨h, rfl⟩ | ⟨a, xs, ys, rfl, rfl, ed⟩ | ⟨a, b, d, rfl, rfl, ed⟩ | ⟨a, xs, ys, rfl, rfl, ed⟩ | ⟨a, n, xs, ys, rfl, rfl, ed⟩ | ⟨t, u, rfl, rfl, eh, ed⟩
      · rcases h with ⟨x, rfl⟩ | rfl | ⟨a, ns, rfl⟩ <;> cases m2
      · exact ed
      · exact ed
      · exact ed
      · exact ed
      · exact ed
    exact R.ap i j c c' a h1 h2 m1 m2
  · obtain ⟨c0, e0, q⟩ := outC_at io e
    have h1 : δ[i]? = some c := by
      rcases q with ⟨h, rfl⟩ | ⟨a, xs, ys, rfl, rfl, ed⟩ | ⟨a, b, d, rfl, rfl, ed⟩ | ⟨a, xs, ys, rfl, rfl, ed⟩ | ⟨a, n, xs, ys, rfl, rfl, ed⟩ | ⟨t, u, rfl, rfl, eh, ed⟩
      · rcases h with ⟨x, rfl⟩ | rfl | ⟨a, ns, rfl⟩ <;> cases m
      · exact ed
      · exact ed
      · exact ed
      · exact ed
      · exact ed
    exact R.fr i c a h1 m
/-- THE RULE: a def keeps its promise over data, by its body's reading -/
theorem okD {x qual : Str} {st : Stmt} {f : Addr} {fd : FuncData} {N ps : List Str} {k : Nat} {sp : DSp} {wb : DTS} (F : Fun K x qual st f fd) (S : FnScope N ps (defScope st)) (dl : ∀ cs R, sp cs R → cs.length = ps.length)
    (body : ∀ (cdv : Value) (A : Around) (outer : List Env) (s : Shared) (H : Hp) (E : XK), RoomG k (A.deeper (envOfC qual (defScope st) s.heap.objs.size f cdv)) → JSs (cxOf CX0 P w K mg base N qual (defScope st) f cdv A outer s H E).nox (defBody st) wb)
    (rd : ∀ cs R, sp cs R → wb (endsOf cs R) (start0 N.length cs)) : FnG P w K mg base CX0 (k + 1) f fd ps (liftSp K sp) := by
  obtain ⟨oc, od, kV, doc, pm, an, cdv, ct, osl, rfl, lk, hcd⟩ := F.ex
  refine fnG_of lk hcd S (fun vs H Q E ⟨B, G, cs, R, rel, hs, _⟩ => by rw [← dl cs R hs, ← rel.len, List.length_map]) fun A outer s H vs Q E hr ⟨B, G, cs, R, rel, hs, k⟩ => ?_
  refine ⟨_, (body cdv A outer s H E hr).nox, B, G, _, endsOf cs R, rel_start rel, rd cs R hs, ?_⟩
  exact ⟨fun σ' H' G' δ' ⟨io, r⟩ sG rel' => k _ H' G' _ _ r sG (rel_end rel rel' sG io) .non, fun v σ' H' G' x δ' ⟨io, r⟩ sG rel' dn => k v H' G' x _ r sG (rel_end rel rel' sG io) dn, fun _ _ _ _ h => h.elim, fun _ _ _ _ h => h.elim⟩
end

/-- own slots that are handed over (m: which), the other operands given away -/
def lkM : List Bool → List Opd → DS → (List Opd → DS → Prop) → Prop
  | _, [], δ, k => k [] δ
  | m, o :: os, δ, k => if m.headD false = true then lkM m.tail os δ fun r δ' => k (o :: r) δ' else lk o δ fun x δ1 => lkM m.tail os δ1 fun r δ' => k (.d x :: r) δ'
def cellOf (δ : DS) : Opd → Cell
  | .d x => .d x
  | .s i => (δ[i]?).getD .em
def putBack : List Opd → List Cell → DS → DS
  | .s i :: os, c :: cs, δ => putBack os cs (δ.set i c)
  | .d _ :: os, _ :: cs, δ => putBack os cs δ
  | _, _, δ => δ
def slotsOf : List Opd → List Nat
  | [] => []
  | .s i :: os => i :: slotsOf os
  | .d _ :: os => slotsOf os
def wCall (m : List Bool) (sp : DSp) (w : DA) : DE := fun δ R => w δ fun os δ1 => lkM m os δ1 fun os' δ2 => (slotsOf os').Nodup ∧ sp (os'.map (cellOf δ2)) fun x cs => R (.d x) (putBack os' cs δ2)
theorem lkM_ok {K : PySem.W.Frag} {B H : Hp} {σ : L2.St} : ∀ {m : List Bool} {vs : List V} {os : List Opd} {G : Hp} {δ : DS} {k : List Opd → DS → Prop}, Rel K B G δ σ H → OpdsOk K G σ vs os → lkM m os δ k → ∃ G' δ' os', k os' δ' ∧ Same G G' ∧ Rel K B G' δ' σ H ∧ OpdsOk K G' σ vs os'
  | _, _, [], G, δ, k, R, h, q => by cases h; exact ⟨G, δ, [], by simpa [lkM] using q, Same.refl _, R, .nil⟩
  | m, _, o :: os, G, δ, k, R, h, q => by
    cases h with
    | cons a b =>
      unfold lkM at q
      split at q
      · obtain ⟨G1, δ1, os', q1, s1, R1, ok1⟩ := lkM_ok R b q
        exact ⟨G1, δ1, o :: os', q1, s1, R1, .cons (a.mono s1) ok1⟩
      · obtain ⟨G1, δ1, x, q1, s1, R1, d1⟩ := lk_ok R a q
        obtain ⟨G2, δ2, os', q2, s2, R2, ok2⟩ := lkM_ok R1 (b.mono s1) q1
        exact ⟨G2, δ2, .d x :: os', q2, s1.trans s2, R2, .cons (Dn.mono s2 _ d1) ok2⟩
theorem mem_slots {os : List Opd} {i : Nat} : i ∈ slotsOf os ↔ ∃ j : Nat, os[j]? = some (Opd.s i) := by
  induction os with
  | nil => simp [slotsOf]
  | cons o os ih =>
    cases o with
    | d x =>
      simp only [slotsOf, ih]
      constructor
      · rintro ⟨j, e⟩; exact ⟨j + 1, by simpa using e⟩
      · rintro ⟨j, e⟩
        cases j with
        | zero => simp at e
        | succ j => exact ⟨j, by simpa using e⟩
    | s i' =>
      simp only [slotsOf, List.mem_cons, ih]
      constructor
      · rintro (rfl | ⟨j, e⟩)
        · exact ⟨0, rfl⟩
        · exact ⟨j + 1, by simpa using e⟩
      · rintro ⟨j, e⟩
        cases j with
        | zero => simp at e; exact .inl e.symm
        | succ j => exact .inr ⟨j, by simpa using e⟩
theorem slots_uniq {os : List Opd} (h : (slotsOf os).Nodup) : ∀ {j k i : Nat}, os[j]? = some (Opd.s i) → os[k]? = some (Opd.s i) → j = k := by
  induction os with
  | nil => intro j k i e; simp at e
  | cons o os ih =>
    intro j k i e1 e2
    have h' : (slotsOf os).Nodup := by
      cases o with
      | d x => exact h
      | s i' => exact (List.nodup_cons.mp h).2
    cases j with
    | zero =>
      cases k with
      | zero => rfl
      | succ k =>
        simp at e1; subst e1
        exact absurd (mem_slots.mpr ⟨k, by simpa using e2⟩) (List.nodup_cons.mp h).1
    | succ j =>
      cases k with
      | zero =>
        simp at e2; subst e2
        exact absurd (mem_slots.mpr ⟨j, by simpa using e1⟩) (List.nodup_cons.mp h).1
      | succ k => exact congrArg (· + 1) (ih (i := i) h' (by simpa using e1) (by simpa using e2))
theorem opds_at {K : PySem.W.Frag} {G : Hp} {σ : L2.St} : ∀ {vs : List V} {os : List Opd} {j : Nat} {o : Opd}, OpdsOk K G σ vs os → os[j]? = some o → ∃ v, vs[j]? = some v ∧ OpdOk K G σ v o
  | _, [], _, _, h, e => by simp at e
  | _, o :: os, 0, _, h, e => by cases h with | cons a b => simp at e; subst e; exact ⟨_, rfl, a⟩
  | _, o :: os, j + 1, x, h, e => by
    cases h with
    | cons a b =>
      obtain ⟨v, h1, h2⟩ := opds_at (j := j) b (by simpa using e)
      exact ⟨v, by simpa using h1, h2⟩
theorem opds_len {K : PySem.W.Frag} {G : Hp} {σ : L2.St} : ∀ {vs : List V} {os : List Opd}, OpdsOk K G σ vs os → vs.length = os.length
  | _, [], h => by cases h; rfl
  | _, o :: os, h => by cases h with | cons a b => simp [opds_len b]
/-- what a callee must leave as it is: what is kept for others, and the slots' own objects that aren't handed over -/
noncomputable def hold (B H : Hp) (δ : DS) (io : List Nat) : Hp := by
  classical
  exact fun a => if ∃ i c, δ[i]? = some c ∧ a ∈ c.fp ∧ i ∉ io then H a else B a
section
variable {K : PySem.W.Frag} {B G H : Hp} {δ : DS} {σ : L2.St} {io : List Nat} {a : Addr}
theorem hold_in (h : ∃ i c, δ[i]? = some c ∧ a ∈ c.fp ∧ i ∉ io) : hold B H δ io a = H a := by unfold hold; exact if_pos h
theorem hold_out (h : ¬ ∃ i c, δ[i]? = some c ∧ a ∈ c.fp ∧ i ∉ io) : hold B H δ io a = B a := by unfold hold; exact if_neg h
theorem call_rel {vs : List V} {os : List Opd} (R : Rel K B G δ σ H) (ok : OpdsOk K G σ vs os) (nd : (slotsOf os).Nodup) : Rel K (hold B H δ (slotsOf os)) G (os.map (cellOf δ)) (vs.map some) H := by
  have getc : ∀ {j : Nat} {c : Cell}, (os.map (cellOf δ))[j]? = some c → ∃ o, os[j]? = some o ∧ c = cellOf δ o := fun {j c} e => by
    rw [List.getElem?_map] at e
    cases h : os[j]? with
    | none => rw [h] at e; cases e
    | some o => rw [h] at e; cases e; exact ⟨o, rfl, rfl⟩
  have own : ∀ {j : Nat} {c : Cell} {a : Addr}, (os.map (cellOf δ))[j]? = some c → a ∈ c.fp → ∃ i, os[j]? = some (.s i) ∧ δ[i]? = some c := fun {j c a} e m => by
    obtain ⟨o, e1, rfl⟩ := getc e
    cases o with
    | d x => cases m
    | s i =>
      refine ⟨i, e1, ?_⟩
      have m' : a ∈ ((δ[i]?).getD Cell.em).fp := m
      show δ[i]? = some ((δ[i]?).getD Cell.em)
      cases h : δ[i]? with
      | none => rw [h] at m'; cases m'
      | some c => rfl
  refine ⟨by simp [opds_len ok], R.sg, fun a o e => ?_, fun a => ?_, fun j c o e1 e2 => ?_, fun j k c c' a e1 e2 m1 m2 => ?_, fun j c a e m => ?_, ⟨R.tt.t, ⟨fun a o e => ?_, R.tt.n.g⟩⟩⟩
  · by_cases h : ∃ i c, δ[i]? = some c ∧ a ∈ c.fp ∧ i ∉ slotsOf os
    · rw [hold_in h] at e; exact e
    · rw [hold_out h] at e; exact R.sb _ _ e
  · by_cases h : ∃ i c, δ[i]? = some c ∧ a ∈ c.fp ∧ i ∉ slotsOf os
    · obtain ⟨i, c, h1, h2, _⟩ := h
      exact .inl (R.fr i c a h1 h2).1
    · rw [hold_out h]; exact R.dj a
  · obtain ⟨od, e3, rfl⟩ := getc e1
    obtain ⟨v, e4, okv⟩ := opds_at ok e3
    rw [List.getElem?_map, e4] at e2
    cases e2
    cases od with
    | d x => exact ⟨v, rfl, okv⟩
    | s i =>
      have hσ : σ[i]? = some (some v) := okv
      show CellOk K G H ((δ[i]?).getD Cell.em) (some v)
      cases h : δ[i]? with
      | none => trivial
      | some c => exact R.ok i c _ h hσ
  · obtain ⟨i, h1, h2⟩ := own e1 m1
    obtain ⟨i', h3, h4⟩ := own e2 m2
    have := R.ap i i' c c' a h2 h4 m1 m2
    subst this
    exact slots_uniq nd h1 h3
  · obtain ⟨i, h1, h2⟩ := own e m
    obtain ⟨f1, f2⟩ := R.fr i c a h2 m
    refine ⟨f1, ?_⟩
    rw [hold_out]
    · exact f2
    · rintro ⟨i', c', h3, h4, h5⟩
      have := R.ap i i' c c' a h2 h3 m h4
      subst this
      exact h5 (mem_slots.mpr ⟨j, h1⟩)
  · by_cases h : ∃ i c, δ[i]? = some c ∧ a ∈ c.fp ∧ i ∉ slotsOf os
    · rw [hold_in h] at e
      obtain ⟨i, c, h1, h2, _⟩ := h
      obtain ⟨ov, _, okc⟩ := R.at h1
      exact cell_te okc h2 o e
    · rw [hold_out h] at e; exact R.tt.n.b _ _ e
theorem putBack_at : ∀ {os : List Opd} {cs : List Cell} {δ : DS} {i : Nat} {c : Cell}, os.length = cs.length → (slotsOf os).Nodup → (putBack os cs δ)[i]? = some c → (i ∉ slotsOf os ∧ δ[i]? = some c) ∨ ∃ j : Nat, os[j]? = some (Opd.s i) ∧ cs[j]? = some c
  | [], cs, δ, i, c, hl, nd, h => by unfold putBack at h; exact .inl ⟨(fun m => nomatch m), h⟩
  | o :: os, [], δ, i, c, hl, nd, h => by simp at hl
  | .d x :: os, c0 :: cs, δ, i, c, hl, nd, h => by
    rcases putBack_at (os := os) (cs := cs) (by simpa using hl) nd (by simpa [putBack] using h) with ⟨h1, h2⟩ | ⟨j, h1, h2⟩
    · exact .inl ⟨h1, h2⟩
    · exact .inr ⟨j + 1, by simpa using h1, by simpa using h2⟩
  | .s i0 :: os, c0 :: cs, δ, i, c, hl, nd, h => by
    rcases putBack_at (os := os) (cs := cs) (by simpa using hl) (List.nodup_cons.mp nd).2 (by simpa [putBack] using h) with ⟨h1, h2⟩ | ⟨j, h1, h2⟩
    · by_cases hi : i0 = i
      · subst hi
        rw [List.getElem?_set] at h2
        simp only [if_true] at h2
        split at h2
        · cases h2; exact .inr ⟨0, rfl, rfl⟩
        · cases h2
      · rw [List.getElem?_set_ne hi] at h2
        exact .inl ⟨fun m => by rcases List.mem_cons.mp m with z | z; exact hi z.symm; exact h1 z, h2⟩
    · exact .inr ⟨j + 1, by simpa using h1, by simpa using h2⟩
theorem putBack_len : ∀ {os : List Opd} {cs : List Cell} {δ : DS}, (putBack os cs δ).length = δ.length
  | [], cs, δ => by simp [putBack]
  | .d _ :: os, [], δ => by rfl
  | .s _ :: os, [], δ => by rfl
  | .d _ :: os, c :: cs, δ => by simp [putBack, putBack_len]
  | .s _ :: os, c :: cs, δ => by simp [putBack, putBack_len]
theorem call_back {G' H' : Hp} {vs : List V} {os : List Opd} {cs : List Cell} (R : Rel K B G δ σ H) (ok : OpdsOk K G σ vs os) (nd : (slotsOf os).Nodup) (s : Same G G') (R' : Rel K (hold B H δ (slotsOf os)) G' cs (vs.map some) H') : Rel K B G' (putBack os cs δ) σ H' := by
  have hlen : os.length = cs.length := by rw [← opds_len ok, ← R'.len, List.length_map]
  have sb : Same B H' := fun a o e => by
    by_cases h : ∃ i c, δ[i]? = some c ∧ a ∈ c.fp ∧ i ∉ slotsOf os
    · obtain ⟨i, c, h1, h2, _⟩ := h
      rw [(R.fr i c a h1 h2).2] at e; cases e
    · exact R'.sb a o (by rw [hold_out h]; exact e)
  have keep : ∀ {i : Nat} {c : Cell} {a : Addr}, i ∉ slotsOf os → δ[i]? = some c → a ∈ c.fp → H' a = H a ∧ hold B H δ (slotsOf os) a = H a := fun {i c a} h1 h2 h3 => by
    have e := hold_in (B := B) (H := H) ⟨i, c, h2, h3, h1⟩
    obtain ⟨o, eo⟩ := R.tr h2 h3
    exact ⟨by rw [R'.sb a o (by rw [e]; exact eo), eo], e⟩
  refine ⟨by rw [putBack_len]; exact R.len, R'.sg, sb, fun a => ?_, fun i c o e1 e2 => ?_, fun i k c c' a e1 e2 m1 m2 => ?_, fun i c a e m => ?_, ⟨R'.tt.t, ⟨R.tt.n.b, R'.tt.n.g⟩⟩⟩
  · by_cases h : ∃ i c, δ[i]? = some c ∧ a ∈ c.fp ∧ i ∉ slotsOf os
    · obtain ⟨i, c, h1, h2, _⟩ := h
      exact .inr (R.fr i c a h1 h2).2
    · have := R'.dj a
      rw [hold_out h] at this; exact this
  · rcases putBack_at hlen nd e1 with ⟨h1, h2⟩ | ⟨j, h1, h2⟩
    · exact (R.ok i c o h2 e2).stay s fun a m => (keep h1 h2 m).1
    · obtain ⟨v, h3, h4⟩ := opds_at ok h1
      have h5 : σ[i]? = some (some v) := h4
      rw [h5] at e2; cases e2
      exact R'.ok j c (some v) h2 (by rw [List.getElem?_map, h3]; rfl)
  · rcases putBack_at hlen nd e1 with ⟨h1, h2⟩ | ⟨j, h1, h2⟩
    · rcases putBack_at hlen nd e2 with ⟨h3, h4⟩ | ⟨j', h3, h4⟩
      · exact R.ap i k c c' a h2 h4 m1 m2
      · obtain ⟨_, f2⟩ := R'.fr j' c' a h4 m2
        rw [(keep h1 h2 m1).2] at f2
        obtain ⟨o, eo⟩ := R.tr h2 m1
        rw [eo] at f2; cases f2
    · rcases putBack_at hlen nd e2 with ⟨h3, h4⟩ | ⟨j', h3, h4⟩
      · obtain ⟨_, f2⟩ := R'.fr j c a h2 m1
        rw [(keep h3 h4 m2).2] at f2
        obtain ⟨o, eo⟩ := R.tr h4 m2
        rw [eo] at f2; cases f2
      · have := R'.ap j j' c c' a h2 h4 m1 m2
        subst this
        rw [h1] at h3; cases h3; rfl
  · rcases putBack_at hlen nd e with ⟨h1, h2⟩ | ⟨j, h1, h2⟩
    · obtain ⟨f1, f2⟩ := R.fr i c a h2 m
      refine ⟨?_, f2⟩
      rcases R'.dj a with z | z
      · exact z
      · rw [(keep h1 h2 m).2] at z
        obtain ⟨o, eo⟩ := R.tr h2 m
        rw [eo] at z; cases z
    · obtain ⟨f1, f2⟩ := R'.fr j c a h2 m
      refine ⟨f1, ?_⟩
      by_cases h : ∃ i c, δ[i]? = some c ∧ a ∈ c.fp ∧ i ∉ slotsOf os
      · obtain ⟨i', c', h3, h4, _⟩ := h
        exact (R.fr i' c' a h3 h4).2
      · rw [hold_out h] at f2; exact f2
end
section
variable {X : Cx} {CX : CXT} {k : Nat} {f : Addr} {fd : FuncData} {ps : List Str} {x : Str} {p pos : Pos} {e : Expr} {es : List Expr}
theorem run_fnG {sp : Sp} {E : XK} {pins : List (Addr × Obj)} {σ : L2.St} {H : Hp} {s : Shared} {Q : VK} {us : List Value} {vs : List V} (F : FnG X.prog X.w X.K X.mg X.base CX k f fd ps sp) (hr : RoomG k X.A) (hb : Binds X.K fd ps []) (hx : Passes CX X E)
    (I : Inv X pins σ H s) (r : Vals vs us) (h : sp vs H Q E) : wpAny (model X.prog X.w) X.A (call (.ref f) us) (EP X pins σ Q) X.xe s := by
  have many : (us ++ []).length = ps.length := (List.append_nil us).symm ▸ r.length.symm.trans (F.len _ _ _ _ h)
  have bound : BindsTo s fd ⟨us, []⟩ (ps.zip us) := by have := hb s us I.kIn many; rwa [List.append_nil] at this
  refine wpAny_call (codeAny_mono (F.run X.A X.stack s H ⟨us, []⟩ us vs Q E hr I.env0 bound r h) ?_)
  rintro (err | _ | _ | _ | u) z back <;> first | exact hx pins σ H s err z I back | exact False.elim back | exact I.after back
theorem pe_callG {sp : Sp} {E : XK} {t : TA} (F : FnG X.prog X.w X.K X.mg X.base CX k f fd ps sp) (hr : RoomG k X.A) (hg : Gl X x) (hm : X.mg x = some (.ref f)) (hk : PySem.W.keepIn X.K (.ref f) = true) (hb : Binds X.K fd ps []) (hx : Passes CX X E)
    (ha : PA X (e :: es) t) (hdb : (x == ("__debug__" : Str)) = false := by decide) (he : starEach (e :: es) X.env = (false, eval e X.env) :: starEach es X.env := by rfl) (hpl : (backTo pos (starEach es X.env)).any (·.1) = false := by rfl) : PE X (.Call (.Name x p) (e :: es) [] pos) (tCall sp [] E t) := by
  exact ⟨fun pins s σ H Q I h => wpAny_Call_Name_kw (ld_glob I hg hm (PySem.W.callWith_K (h₀ := X.base) I.ok.mod.kin hk (wpAny_mono (ha.run pos pins s σ H _ I h)
    (fun us z ⟨vs, H1, I1, r, q⟩ => ⟨I1.kIn, run_fnG F hr hb hx I1 r (by have q : sp (vs ++ []) H1 Q E := q; rwa [List.append_nil] at q)⟩) fun _ _ z => z) he hpl) hdb)⟩
theorem je_call {m : List Bool} {sp : DSp} {w : DA} (F : FnG X.prog X.w X.K X.mg X.base CX0 k f fd ps (liftSp X.K sp)) (hr : RoomG k X.A) (hg : Gl X x) (hm : X.mg x = some (.ref f)) (hk : PySem.W.keepIn X.K (.ref f) = true) (hb : Binds X.K fd ps [])
    (ha : JA X (e :: es) w) (hdb : (x == ("__debug__" : Str)) = false := by decide) (he : starEach (e :: es) X.env = (false, eval e X.env) :: starEach es X.env := by rfl) (hpl : (backTo pos (starEach es X.env)).any (·.1) = false := by rfl) : JE X (.Call (.Name x p) (e :: es) [] pos) (wCall m sp w) :=
  pe_le (pe_callG (E := E0) F hr hg hm hk hb pass0 ha hdb he hpl) fun pins s σ H Q I ⟨B, G, δ, R, rel, hw, k⟩ => ⟨B, G, δ, _, rel, hw, fun vs H1 G1 os δ1 r1 s1 rel1 ok1 => by
    obtain ⟨G2, δ2, os', ⟨nd, q⟩, s2, rel2, ok2⟩ := lkM_ok rel1 ok1 r1
    rw [List.append_nil]
    exact ⟨_, G2, _, _, call_rel rel2 ok2 nd, q, fun v H' G' z cs r s3 rel3 dn => k v H' G' _ _ r (s1.trans (s2.trans s3)) (call_back rel2 ok2 nd s3 rel3) dn⟩⟩
end
end DL
set_option Elab.async false
set_option linter.all false
set_option maxRecDepth 100000
set_option maxHeartbeats 4000000
namespace DL
open PySem PySem.Spec PyProof.Rows L2
variable [Tb]

inductive Src where
  | l (a : Addr)
  | t (a : Addr)
def Src.ad : Src → Addr
  | .l a => a
  | .t a => a
def Src.is (h : Heap) (its : Array Value) : Src → Prop
  | .l a => h.IsList a its
  | .t a => h.IsTuple a its
def Src.iter (h : Heap) (it : Addr) (n : Nat) : Src → Prop
  | .l a => h.IsListIter it a n
  | .t a => h.IsTupleIter it a n
def Src.ob : Src → Obj
  | .l a => { cls := .type "list_iterator", data := .fields #[.ref a, .int 0 0] }
  | .t a => { cls := .type "tuple_iterator", data := .fields #[.ref a, .int 0 0] }
def SrcOk (K : PySem.W.Frag) (H : Hp) (S : Src) (xs : List V) : Prop := match S with
  | .l a => SqL K H a xs
  | .t a => SqT K H a xs
theorem Src.draws {prog : Program} {w : World} {A : Around} (hh : A.handled = none) (S : Src) (it : Addr) (hne : S.ad ≠ it) (items : Array Value) :
    Draws prog w A it [it, S.ad] items.size (fun i v => items[i]? = some v) (fun i h => S.iter h it i ∧ S.is h items) := by
  cases S with
  | l a => exact Draws.list hh it a hne items
  | t a => exact Draws.tuple hh it a hne items
theorem Src.begins (S : Src) (items : Array Value) : Begins (.ref S.ad) S.ob fun h => S.is h items := by
  cases S with
  | l a => exact begins_list a items
  | t a => exact begins_tuple a items
theorem Src.lt {S : Src} {h : Heap} {its : Array Value} (x : S.is h its) : S.ad < h.objs.size := by
  cases S with
  | l a => obtain ⟨o, e, _⟩ := x; exact Heap.lt_size e
  | t a => obtain ⟨o, e, _⟩ := x; exact Heap.lt_size e
theorem Src.iter_keep {S : Src} {h h' : Heap} {it : Addr} {n : Nat} (x : S.iter h it n) (k : ∀ o, h.get? it = some o → h'.get? it = some o) : S.iter h' it n := by
  cases S with
  | l a => exact Heap.IsListIter.at x k
  | t a => exact Heap.IsTupleIter.at x k
theorem Src.iter_of {S : Src} {h : Heap} {it : Addr} (e : h.get? it = some S.ob) : S.iter h it 0 := by
  cases S with
  | l a => exact ⟨_, e, rfl, rfl⟩
  | t a => exact ⟨_, e, rfl, rfl⟩
theorem Src.iter_obj {S : Src} {h : Heap} {it : Addr} {n : Nat} (x : S.iter h it n) : ∃ o, h.get? it = some o ∧ ∀ v, o.data ≠ .cell v := by
  cases S with
  | l a => obtain ⟨o, e, c, d⟩ := x; exact ⟨o, e, fun v z => by rw [d] at z; cases z⟩
  | t a => obtain ⟨o, e, c, d⟩ := x; exact ⟨o, e, fun v z => by rw [d] at z; cases z⟩
theorem src_get {X : Cx} {pins : List (Addr × Obj)} {σ : L2.St} {H : Hp} {s : Shared} {S : Src} {xs : List V} (I : Inv X pins σ H s) (h : SrcOk X.K H S xs) : ∃ its : List Value, Vals xs its ∧ S.is s.heap its.toArray ∧ xs.length ≤ sizeLine := by
  cases S with
  | l a => obtain ⟨its, rv, p, hz⟩ := I.list h; exact ⟨its, rv, p.isList, hz⟩
  | t a => obtain ⟨its, rv, p, hz⟩ := I.tuple h; exact ⟨its, rv, p, hz⟩
theorem src_inj {X : Cx} {pins : List (Addr × Obj)} {σ : L2.St} {H : Hp} {s : Shared} {S : Src} {xs ys : List V} (I : Inv X pins σ H s) (h : SrcOk X.K H S xs) (h' : SrcOk X.K H S ys) : xs = ys := by
  cases S with
  | l a => exact I.list_inj h h'
  | t a => exact I.tuple_inj h h'
/-- a footprint's objects are there, and none is a cell -/
def Sits (ch : List Addr) (h : Heap) : Prop := ∀ b ∈ ch, ∃ o, h.get? b = some o ∧ ∀ v, o.data ≠ .cell v
theorem Sits.nil {h : Heap} : Sits [] h := fun _ m => nomatch m
theorem Sits.put {b : Addr} {ch : List Addr} {h : Heap} {o : Obj} (e : h.get? b = some o) (n : ∀ v, o.data ≠ .cell v) (t : Sits ch h) : Sits (b :: ch) h :=
  List.forall_mem_cons.mpr ⟨⟨o, e, n⟩, t⟩
theorem Sits.src {S : Src} {b : Addr} {ch : List Addr} {h : Heap} {n : Nat} (e : S.iter h b n) (t : Sits ch h) : Sits (b :: ch) h :=
  List.forall_mem_cons.mpr ⟨Src.iter_obj e, t⟩
/-- a new tuple lies on top, and of what was there only the footprint has turned -/
theorem row_laid {X : Cx} {pins : List (Addr × Obj)} {σ : L2.St} {H : Hp} {s : Shared} {ch : List Addr} {h' : Heap} {tk : Nat} {row : List V} {us : List Value}
    (I : Inv X pins σ H s) (own : ∀ b ∈ ch, FpOk X pins H b) (sit : Sits ch s.heap) (same : ∀ b o, b ∉ ch → s.heap.get? b = some o → h'.get? b = some o)
    (short : row.length ≤ sizeLine) (r : Vals row us) (top : h'.get? s.heap.objs.size = some { cls := .type "tuple", data := .seq us.toArray }) :
    Inv X pins σ (upd H s.heap.objs.size (tupH (tupO us) row)) { s with heap := h', toks := tk } ∧ H s.heap.objs.size = none ∧ ∀ b ∈ ch, upd H s.heap.objs.size (tupH (tupO us) row) b = none := by
  refine ⟨I.turnedNew same own (Nat.le_refl _) (tupH_ok top rfl rfl short r), I.hok.fresh (Nat.le_refl _), fun b m => ?_⟩
  obtain ⟨o, at_b, _⟩ := sit b m
  exact (upd_ne (Nat.ne_of_lt (Heap.lt_size at_b))).trans (own b m).1
/-- what lies above the heap's end is nobody's -/
theorem all_new {X : Cx} {pins : List (Addr × Obj)} {σ : L2.St} {H : Hp} {s : Shared} (I : Inv X pins σ H s) (ks : List Nat) : ∀ b ∈ ks.map (s.heap.objs.size + ·), FpOk X pins H b := fun b m => by
  obtain ⟨k, _, rfl⟩ := List.mem_map.mp m
  exact I.fpOk (Nat.le_add_right _ k) (I.hok.fresh (Nat.le_add_right _ k))
/-- a row's item of a source: its value, and where it stands -/
theorem src_item {X : Cx} {pins : List (Addr × Obj)} {σ : L2.St} {H : Hp} {s : Shared} {S : Src} {xs : List V} {i : Nat} {x : V} (I : Inv X pins σ H s) (h : SrcOk X.K H S xs) (e : xs[i]? = some x) :
    ∃ (its : Array Value) (u : Value), S.is s.heap its ∧ i < its.size ∧ (∀ y, its[i]? = some y → y = u) ∧ RelV x u ∧ ∀ ys, SrcOk X.K H S ys → ys[i]? = some x := by
  obtain ⟨its, rv, at_s, _⟩ := src_get I h
  obtain ⟨u, eu, ru⟩ := rv.get e
  refine ⟨its.toArray, u, at_s, ?_, fun y ey => ?_, ru, fun ys h2 => src_inj I h2 h ▸ e⟩
  · rw [List.size_toArray]; exact (List.getElem?_eq_some_iff.mp eu).1
  · rw [List.getElem?_toArray, eu] at ey; exact (Option.some.inj ey).symm
theorem src_all {X : Cx} {pins : List (Addr × Obj)} {σ : L2.St} {H : Hp} {s : Shared} {S : Src} {xs : List V} (I : Inv X pins σ H s) (h : SrcOk X.K H S xs) :
    ∃ its : Array Value, S.is s.heap its ∧ its.size = xs.length := by
  obtain ⟨its, rv, at_s, _⟩ := src_get I h
  exact ⟨its.toArray, at_s, by rw [List.size_toArray]; exact rv.length.symm⟩
/-- a built-in class is called by its name, on what the operands yield -/
theorem pi_class {X : Cx} {tg e : Expr} {es : List Expr} {ta : TA} {p pos : Pos} {x : Str} {T : String} {W : List V → Hp → (It → Hp → Prop) → Prop} (hg : Gl X x) (hm : X.mg x = none) (hb : bootBuiltins x = some (.type T)) (ha : PA X (e :: es) ta)
    (hs : starEach (e :: es) X.env = (false, eval e X.env) :: starEach es X.env) (hpl : (backTo pos (starEach es X.env)).any (·.1) = false) (hx : x ≠ "__name__") (hd : (x == ("__debug__" : Str)) = false)
    (k : ∀ (pins : List (Addr × Obj)) (s : Shared) (σ : L2.St) (H : Hp) (R : It → Hp → Prop) (vs : List V) (us : List Value), Inv X pins σ H s → Vals vs us → W vs H R →
      wpAny (model X.prog X.w) X.A (call (.type T) us) (fun v s1 => wpAny (model X.prog X.w) X.A (pyIter v) (PIE X pins σ tg R) X.xe s1) X.xe s) :
    PI X tg (.Call (.Name x p) (e :: es) [] pos) (fun σ H R => ta σ H fun vs H1 => W vs H1 R) where
  run pins s σ H R I h := Call_ (ld_blt I hg hm hb (PyProof.Rows.callWith_type1 (wpAny_mono (ha.run pos pins s σ H _ I h)
    (fun us _ ⟨vs, H1, I1, r, q⟩ => k pins _ σ H1 R vs us I1 r q) fun _ _ z => z) hs hpl) hx hd)

def Ien (K : PySem.W.Frag) (S : Src) : It :=
  ⟨fun i H => ∃ xs x, SrcOk K H S xs ∧ xs[i]? = some x,
   fun i H v H' => ∃ (p : Addr) (o : Obj) (x : V), o.dict = none ∧ v = .ref p ∧ H p = none ∧ H' = upd H p (tupH o [.int (i : Nat), x]) ∧ ∀ xs, SrcOk K H S xs → xs[i]? = some x,
   fun i H => ∃ xs, SrcOk K H S xs ∧ i = xs.length⟩
theorem turn_en {P : Program} {w : World} {K : PySem.W.Frag} {elts : List Expr} {kk : Nat} {tpos : Pos} {S : Src} {e it : Addr} (n1 : S.ad ≠ it) (n2 : e ≠ it) (n3 : e ≠ S.ad) :
    Turn P w K (.Tuple elts kk tpos) (Ien K S) [e, it] e (fun i h => (∃ old, IsEnum h e it ((i : Nat) : Int) old) ∧ S.iter h it i) := by
  have sit : ∀ {i : Nat} {h : Heap} {c : Int} {old : Value}, IsEnum h e it c old → S.iter h it i → Sits [e, it] h := fun he h1 => .put he nofun (.src h1 .nil)
  refine ⟨List.mem_cons_self, fun i h ⟨⟨_, he⟩, h1⟩ => sit he h1, ?_, ?_, ?_, fun _ _ _ _ _ ⟨⟨_, he⟩, _⟩ => wpAny_pyIter_enum he⟩
  · rintro i h h' ⟨⟨old, he⟩, h1⟩ k
    exact ⟨⟨old, k e (by simp) _ he⟩, Src.iter_keep h1 (k it (by simp))⟩
  · rintro X rfl rfl rfl hc i pins s σ H E I own ⟨⟨old, he⟩, h1⟩ ⟨xs, x, ox, ex⟩
    obtain ⟨as, u1, at1, l1, val1, r1, same1⟩ := src_item I ox ex
    refine wpAny_pyNext_enum_itemD (Src.draws (A := X.A.in1) (I.ok.hd hc) S it n1 as) he ⟨h1, at1⟩ l1 n2 (by simp [n2, n3]) fun y g tk ey go g1 top _ kept => ⟨_, rfl, ?_⟩
    cases val1 _ ey
    refine wpAny_letOwnedTupleGo_enum (s := { s with heap := g, toks := tk + 1 }) go fun g' ge' but => ?_
    have old' : e ≠ s.heap.objs.size := Nat.ne_of_lt (Heap.lt_size he)
    obtain ⟨I', new, none'⟩ := row_laid (h' := g') (tk := tk + 1) (row := [.int (i : Nat), x]) I own (sit he h1)
      (fun c o m q => by
        simp only [List.mem_cons, List.not_mem_nil, or_false, not_or] at m
        exact (but.2 c m.1).trans (kept c o m.1 m.2 q))
      (show 2 ≤ sizeLine by decide) (.cons ⟨tk, rfl⟩ (.cons r1 .nil)) ((but.2 _ old'.symm).trans top)
    exact ⟨.ref s.heap.objs.size, _, I', rfl, ⟨_, _, x, rfl, rfl, new, rfl, same1⟩, ⟨⟨_, by rw [Int.natCast_succ]; exact ge'⟩, Src.iter_keep g1.1 fun o q => (but.2 it n2.symm).trans q⟩, none'⟩
  · rintro X rfl rfl rfl hc i pins s σ H E I own ⟨⟨old, he⟩, h1⟩ ⟨xs, ox, rfl⟩
    obtain ⟨as, at1, s1⟩ := src_all I ox
    rw [← s1] at h1
    refine wpAny_pyNext_enum_endD (Src.draws (A := X.A.in1) (I.ok.hd hc) S it n1 as) he ⟨h1, at1⟩ fun g kept => ⟨rfl, ?_⟩
    exact I.turnedL (t' := s.toks) (fun c o m => kept c o fun z => m (z ▸ List.mem_cons_of_mem _ List.mem_cons_self)) own
/-- enumerate of one thing: the class's own make, from any thing that can be walked along -/
theorem enum_made {v : Value} {o : Obj} {Q : Heap → Prop} (B : Begins v o Q) :
    Meets (Builtin.«enumerate.__new__» ⟨[.type "enumerate", v], []⟩) (fun _ R s => Q s.heap ∧
      R (.ok (.ret (.ref (s.heap.push o).objs.size))) { s with heap := (s.heap.push o).push { cls := .type "enumerate", data := .fields #[.none, .bool false, .ref s.heap.objs.size, rawInt 0, .none, .none] } }) := by
  refine .of_wp fun prog w A R => ?_
  rintro ⟨hp, gs, dr, tk, os⟩ ⟨at_v, h⟩
  have begun {A' : Around} {E G : Value → Shared → Prop} : G (.ref hp.objs.size) ⟨hp.push o, gs, dr, tk, os⟩ → wpAny (model prog w) A' (pyIter v) G E ⟨hp, gs, dr, tk, os⟩ := B.iter prog w _ _ ⟨hp, gs, dr, tk, os⟩ _ at_v
  have sub := sub_enumerate
  wp_walk using begun
  refine wpAny_stack_any fun _ => wpAny_pure ?_
  split
  next c _ _ _ _ _ => cases (c == Value.type "enumerate") <;> (wp_walk using begun; exact ⟨_, rfl, h⟩)
  next => wp_walk using begun; exact ⟨_, rfl, h⟩
theorem enum_starts {prog : Program} {w : World} {A : Around} {E : Value → Shared → Prop} {s : Shared} {v : Value} {o : Obj} {P : Heap → Prop} {Q : Value → Shared → Prop} (B : Begins v o P) (at_v : P s.heap)
    (k : ∀ h', IsEnum h' (s.heap.objs.size + 1) s.heap.objs.size 0 .none → h'.get? s.heap.objs.size = some o → (∀ b u, s.heap.get? b = some u → h'.get? b = some u) → Q (.ref (s.heap.objs.size + 1)) { s with heap := h' }) :
    wpAny (model prog w) A (call (.type "enumerate") [v]) Q E s := by
  refine callType_new F.called_enumerate (by decide) (F.typeCall_enumerate_1 _) (F.newCall_enumerate_1 _) (F.args_object_init_2 · _) F.entry_enumerate_new (enum_made B) ⟨at_v, ?_⟩
  have up : (s.heap.push o).objs.size = s.heap.objs.size + 1 := Heap.size_push _ _
  have at_e := Heap.get?_push_size (s.heap.push o) (o := { cls := .type "enumerate", data := .fields #[.none, .bool false, .ref s.heap.objs.size, rawInt 0, .none, .none] }) rfl
  rw [up] at at_e
  show _ ∧ _
  rw [up]
  exact ⟨⟨_, at_e, rfl⟩, k _ at_e (Heap.get?_push_of_some _ (Heap.get?_push_size _ B.free)) fun b u q => Heap.get?_push_of_some _ (Heap.get?_push_of_some _ q)⟩
def iEn (K : PySem.W.Frag) (ta : TA) : TI := fun σ H R => ta σ H fun vs H1 => ∃ S xs, vs = [.ref S.ad] ∧ SrcOk K H1 S xs ∧ (xs.length ≤ sizeLine → R (Ien K S) H1)
theorem pi_en {X : Cx} {e : Expr} {ta : TA} {p pos tpos : Pos} {elts : List Expr} {kk : Nat} (hg : Gl X "enumerate") (hm : X.mg "enumerate" = none) (ha : PA X [e] ta) (hs : starEach [e] X.env = [(false, eval e X.env)] := by rfl) :
    PI X (.Tuple elts kk tpos) (.Call (.Name "enumerate" p) [e] [] pos) (iEn X.K ta) :=
  pi_class hg hm boot_enumerate ha hs rfl (by decide) (by decide) fun pins s σ H R vs us I r ⟨S, xs, ev, ox, q⟩ => by
    subst ev
    obtain _ | ⟨rfl, _ | _⟩ := r
    obtain ⟨as, at1, _⟩ := src_all I ox
    obtain ⟨_, _, _, z1⟩ := src_get I ox
    have b1 := Src.lt at1
    exact enum_starts (Src.begins S as) at1 fun h' he h1 kept => wpAny_pyIter_enum he ⟨_, _, _, _, H, rfl, I.kept (t' := s.toks) kept,
      turn_en (Nat.ne_of_lt b1) (Nat.succ_ne_self _) (Nat.ne_of_gt (Nat.lt_succ_of_lt b1)), ⟨⟨_, he⟩, Src.iter_of h1⟩, all_new I [1, 0], q z1⟩

def seqOf : PyData → Option (List PyData)
  | .list xs => some xs
  | .tuple xs => some xs
  | _ => none
def triosD : List PyData → List PyData → List PyData → List PyData
  | x :: xs, y :: ys, z :: zs => .tuple [x, y, z] :: triosD xs ys zs
  | _, _, _ => []
def numbered : Nat → List PyData → List PyData
  | _, [] => []
  | n, x :: xs => .tuple [.int (n : Int), x] :: numbered (n + 1) xs
theorem numbered_len : ∀ n xs, (numbered n xs).length = xs.length
  | _, [] => rfl
  | n, x :: xs => by simp [numbered, numbered_len (n + 1) xs]
theorem numbered_get : ∀ (n : Nat) (xs : List PyData) (i : Nat), (numbered n xs)[i]? = (xs[i]?).map fun x => .tuple [.int ((n + i : Nat) : Int), x]
  | _, [], i => by simp [numbered]
  | n, x :: xs, 0 => by simp [numbered]
  | n, x :: xs, i + 1 => by
    simp only [numbered, List.getElem?_cons_succ, numbered_get (n + 1) xs i]
    rw [show n + 1 + i = n + (i + 1) by omega]
theorem dn_src {K : PySem.W.Frag} {G : Hp} {v : V} {d : PyData} {xs : List PyData} (dn : Dn K G v d) (h : seqOf d = some xs) : ∃ S vs, v = .ref (Src.ad S) ∧ DnL K G vs xs ∧ ∀ G2 H, Same G G2 → Same G2 H → SrcOk K H S vs := by
  cases dn with
  | lst hs t => cases h; exact ⟨.l _, _, rfl, t, fun G2 H s1 s2 => SqL.of (s2 _ _ (s1 _ _ hs))⟩
  | tup hs t => cases h; exact ⟨.t _, _, rfl, t, fun G2 H s1 s2 => sqT_mono s2 (sqT_mono s1 hs.sq)⟩
  | _ => cases h
theorem pair_new {K : PySem.W.Frag} {B G H : Hp} {δ : DS} {σ : L2.St} {p : Addr} {xs : List V} {ds : List PyData} {o : Obj} (hd : o.dict = none) (rel : Rel K B G δ σ H) (np : H p = none) (t : DnL K G xs ds) : ∃ G3, Same G G3 ∧ Rel K B G3 δ σ (upd H p (tupH o xs)) ∧ Dn K G3 (.ref p) (.tuple ds) := by
  obtain ⟨rel3, s3, at3⟩ := rel.laidT (xs := xs) np hd
  exact ⟨_, s3, rel3, Dn.tup at3 (t.mono s3)⟩
theorem walk_en {K : PySem.W.Frag} {G : Hp} {S : Src} {vs : List V} {xs : List PyData} (h1 : ∀ G2 H, Same G G2 → Same G2 H → SrcOk K H S vs) (t1 : DnL K G vs xs) : WalkD K (Ien K S) G (numbered 0 xs) := fun B G2 δ σ H s rel => by
  have q1 := h1 G2 H s rel.sg
  have l1 := t1.len
  rw [numbered_len]
  refine ⟨fun i hi => ⟨vs, vs[i]'(by omega), q1, List.getElem?_eq_getElem (by omega)⟩, ⟨vs, q1, by omega⟩, fun i x d H' hd y => ?_⟩
  obtain ⟨p, o, x, hd', rfl, np, rfl, y1⟩ := y
  rw [numbered_get] at hd
  cases e1 : xs[i]? with
  | none => rw [e1] at hd; cases hd
  | some d1 =>
    rw [e1] at hd
    cases hd
    obtain ⟨v, hv, dv⟩ := t1.get e1
    rw [y1 vs q1] at hv; cases hv
    refine pair_new hd' rel np (.cons ?_ (.cons (dv.mono s) .nil))
    rw [Nat.zero_add]; exact Dn.int _
def iZip2 (w : DA) : DL := fun δ R => w δ fun os δ1 => lkL os δ1 fun ds δ2 => match ds with
  | [a, b] => ∃ xs ys, seqOf a = some xs ∧ seqOf b = some ys ∧ R (pairsD xs ys) δ2
  | _ => False
def iZip3 (w : DA) : DL := fun δ R => w δ fun os δ1 => lkL os δ1 fun ds δ2 => match ds with
  | [a, b, c] => ∃ xs ys zs, seqOf a = some xs ∧ seqOf b = some ys ∧ seqOf c = some zs ∧ R (triosD xs ys zs) δ2
  | _ => False
def iEnumD (w : DA) : DL := fun δ R => w δ fun os δ1 => lkL os δ1 fun ds δ2 => match ds with
  | [a] => ∃ xs, seqOf a = some xs ∧ R (numbered 0 xs) δ2
  | _ => False
theorem DnL.one {K : PySem.W.Frag} {G : Hp} {vs : List V} {d : PyData} (h : DnL K G vs [d]) : ∃ v, vs = [v] ∧ Dn K G v d := by
  cases h with | cons a b => cases b; exact ⟨_, rfl, a⟩
theorem DnL.two {K : PySem.W.Frag} {G : Hp} {vs : List V} {d e : PyData} (h : DnL K G vs [d, e]) : ∃ v u, vs = [v, u] ∧ Dn K G v d ∧ Dn K G u e := by
  cases h with | cons a b => obtain ⟨u, rfl, c⟩ := b.one; exact ⟨_, _, rfl, a, c⟩
section
variable {X : Cx} {pos tpos : Pos} {elts : List Expr} {kk : Nat} {p : Pos}
theorem ji_enum {e : Expr} {w : DA} (hg : Gl X "enumerate") (hm : X.mg "enumerate" = none) (ha : JA X [e] w) (hs : starEach [e] X.env = [(false, eval e X.env)] := by rfl) : JI X (.Tuple elts kk tpos) (.Call (.Name "enumerate" p) [e] [] pos) (iEnumD w) :=
  pi_le (pi_en hg hm ha hs) fun pins s σ H R I ⟨B, G, δ, R', rel, hw, k⟩ => ⟨B, G, δ, _, rel, hw, fun vs H1 G1 os δ1 r1 s1 rel1 ok1 => by
    obtain ⟨G2, δ2, ds, q, s2, rel2, t⟩ := lkL_ok rel1 ok1 r1
    match ds, q with
    | [a], ⟨xs, ea, q⟩ =>
      obtain ⟨v, rfl, da⟩ := t.one
      obtain ⟨S, ws, rfl, t1, k1⟩ := dn_src da ea
      refine ⟨S, ws, rfl, k1 _ _ (Same.refl _) rel2.sg, fun z1 => k _ H1 G2 _ δ2 q (s1.trans s2) rel2 (walk_en k1 t1) ?_⟩
      rw [numbered_len, ← t1.len]; exact z1⟩
end
end DL
set_option Elab.async false
set_option linter.all false
set_option maxRecDepth 100000
set_option maxHeartbeats 4000000
universe u
namespace DL
open PySem PySem.Spec PyProof.Rows L2
variable [Tb]

/-- what simp does not look into -/
inductive Stop {α : Sort u} (R : α) : Type where
  | mk
def comC (g : DTG) (t : DT) (e : DE) (vs : List Nat) (xs acc : List PyData) (δ : DS) (R : List PyData → DS → Prop) (_u : Stop R) : Prop := compIt g t e vs xs acc δ R
def forC (g : DTG) (b : DTS) (xs : List PyData) (δ : DS) (E : DEnds) (_u : Stop E) : Prop := forIt g b xs E δ
def whileC (c : DT) (b : DTS) (δ : DS) (E : DEnds) (_u : Stop E) : Prop := wWhile c b E δ
def ask (sp : DSp) (cs : List Cell) (R : PyData → List Cell → Prop) (_u : Stop R) : Prop := sp cs R
def onS {α : Type} (o : Option α) (k : α → Prop) (_u : Stop k) : Prop := match o with
  | some z => k z
  | none => False
omit [Tb] in
@[simp ↓] theorem onS_some {α : Type} (z : α) (k : α → Prop) (u : Stop k) : onS (some z) k u = k z := rfl
theorem ex_some {α : Type} (o : Option α) (k : α → Prop) : (∃ z, o = some z ∧ k z) = onS o k .mk := by
  cases o <;> simp [onS]
theorem onS_of {α : Type} {o : Option α} {z : α} {k : α → Prop} {u : Stop k} (h : o = some z) (q : k z) : onS o k u := by rw [h]; exact q
def onIs (ds : List PyData) (k : List Int → Prop) (_u : Stop k) : Prop := ∃ ns : List Int, ds = ns.map PyData.int ∧ k ns
def onBs (ds : List PyData) (k : List Bool → Prop) (_u : Stop k) : Prop := ∃ ns : List Bool, ds = ns.map PyData.bool ∧ k ns
theorem map_int_inj : ∀ {ns ms : List Int}, ns.map PyData.int = ms.map PyData.int → ns = ms
  | [], [], _ => rfl
  | [], _ :: _, h => by cases h
  | _ :: _, [], h => by cases h
  | n :: ns, m :: ms, h => by
    simp only [List.map_cons, List.cons.injEq] at h
    obtain ⟨h1, h2⟩ := h
    cases h1
    rw [map_int_inj h2]
theorem map_bool_inj : ∀ {ns ms : List Bool}, ns.map PyData.bool = ms.map PyData.bool → ns = ms
  | [], [], _ => rfl
  | [], _ :: _, h => by cases h
  | _ :: _, [], h => by cases h
  | n :: ns, m :: ms, h => by
    simp only [List.map_cons, List.cons.injEq] at h
    obtain ⟨h1, h2⟩ := h
    cases h1
    rw [map_bool_inj h2]
omit [Tb] in
@[simp ↓] theorem onIs_i (ns : List Int) (k : List Int → Prop) (u : Stop k) : onIs (ns.map PyData.int) k u = k ns :=
  propext ⟨fun ⟨ms, e, h⟩ => by rw [map_int_inj e]; exact h, fun h => ⟨ns, rfl, h⟩⟩
omit [Tb] in
@[simp ↓] theorem onIs_f {α : Type} (as : List α) (f : α → Int) (k : List Int → Prop) (u : Stop k) : onIs (as.map fun a => PyData.int (f a)) k u = k (as.map f) := by
  have := onIs_i (as.map f) k u
  rw [List.map_map] at this; exact this
omit [Tb] in
@[simp ↓] theorem onBs_i (ns : List Bool) (k : List Bool → Prop) (u : Stop k) : onBs (ns.map PyData.bool) k u = k ns :=
  propext ⟨fun ⟨ms, e, h⟩ => by rw [map_bool_inj e]; exact h, fun h => ⟨ns, rfl, h⟩⟩
omit [Tb] in
@[simp ↓] theorem onBs_f {α : Type} (as : List α) (f : α → Bool) (k : List Bool → Prop) (u : Stop k) : onBs (as.map fun a => PyData.bool (f a)) k u = k (as.map f) := by
  have := onBs_i (as.map f) k u
  rw [List.map_map] at this; exact this
def allTr (bs : List Bool) : Bool := bs.all id
def anyTr (bs : List Bool) : Bool := bs.any id
def onD (o : Option Cell) (k : PyData → Prop) (_u : Stop k) : Prop := match o with
  | some (.d z) => k z
  | _ => False
omit [Tb] in
@[simp ↓] theorem onD_d (z : PyData) (k : PyData → Prop) (u : Stop k) : onD (some (.d z)) k u = k z := rfl
theorem ex_d (o : Option Cell) (k : PyData → Prop) : (∃ z, o = some (.d z) ∧ k z) = onD o k .mk := by
  cases o with
  | none => simp [onD]
  | some c => cases c <;> simp [onD]
def asB (x : PyData) (k : Bool → Prop) (_u : Stop k) : Prop := match x with
  | .bool b => k b
  | _ => False
def asI (x : PyData) (k : Int → Prop) (_u : Stop k) : Prop := match x with
  | .int b => k b
  | _ => False
omit [Tb] in
@[simp ↓] theorem asB_b (b : Bool) (k : Bool → Prop) (u : Stop k) : asB (.bool b) k u = k b := rfl
omit [Tb] in
@[simp ↓] theorem asI_i (b : Int) (k : Int → Prop) (u : Stop k) : asI (.int b) k u = k b := rfl
theorem ex_bool (x : PyData) (k : Bool → Prop) : (∃ b, x = .bool b ∧ k b) = asB x k .mk := by
  cases x <;> simp [asB]
theorem ex_int (x : PyData) (k : Int → Prop) : (∃ b, x = .int b ∧ k b) = asI x k .mk := by
  cases x <;> simp [asI]
omit [Tb] in
@[simp ↓] theorem wOfL_ap (w : DL) (δ : DS) (R : Opd → DS → Prop) : wOfL w δ R = (w δ fun xs δ' => R (.d (.list xs)) δ') := rfl
def varC (o : Option Cell) (i : Nat) (k : Opd → Prop) (_u : Stop k) : Prop := match o with
  | some (.d x) => k (.d x)
  | some .em => False
  | none => False
  | _ => k (.s i)
omit [Tb] in
@[simp ↓] theorem varC_d (x : PyData) (i : Nat) (k : Opd → Prop) (u : Stop k) : varC (some (.d x)) i k u = k (.d x) := rfl
omit [Tb] in
@[simp ↓] theorem varC_ol (a : Addr) (xs : List PyData) (i : Nat) (k : Opd → Prop) (u : Stop k) : varC (some (.ol a xs)) i k u = k (.s i) := rfl
omit [Tb] in
@[simp ↓] theorem varC_dk (a b c : Addr) (i : Nat) (k : Opd → Prop) (u : Stop k) : varC (some (.dk a b c)) i k u = k (.s i) := rfl
omit [Tb] in
@[simp ↓] theorem varC_dx (a b c : Addr) (xs : List Int) (n : Int) (ys : List Int) (i : Nat) (k : Opd → Prop) (u : Stop k) : varC (some (.dx a b c xs n ys)) i k u = k (.s i) := rfl
omit [Tb] in
@[simp ↓] theorem varC_scr (a : Addr) (ns : List Int) (i : Nat) (k : Opd → Prop) (u : Stop k) : varC (some (.scr a ns)) i k u = k (.s i) := rfl
def useC (o : Option Cell) (k : PyData → Prop) (_u : Stop k) : Prop := match o with
  | some (.d x) => k x
  | some (.ol _ xs) => k (.list xs)
  | _ => False
omit [Tb] in
@[simp ↓] theorem useC_d (x : PyData) (k : PyData → Prop) (u : Stop k) : useC (some (.d x)) k u = k x := rfl
omit [Tb] in
@[simp ↓] theorem useC_ol (a : Addr) (xs : List PyData) (k : PyData → Prop) (u : Stop k) : useC (some (.ol a xs)) k u = k (.list xs) := rfl
def lkC (o : Option Cell) (k l : PyData → Prop) (_u : Stop k) (_v : Stop l) : Prop := match o with
  | some (.d x) => k x
  | some (.ol _ xs) => l (.list xs)
  | _ => False
omit [Tb] in
@[simp ↓] theorem lkC_d (x : PyData) (k l : PyData → Prop) (u : Stop k) (v : Stop l) : lkC (some (.d x)) k l u v = k x := rfl
omit [Tb] in
@[simp ↓] theorem lkC_ol (a : Addr) (xs : List PyData) (k l : PyData → Prop) (u : Stop k) (v : Stop l) : lkC (some (.ol a xs)) k l u v = l (.list xs) := rfl
def olC (o : Option Cell) (k : Addr → List PyData → Prop) (_u : Stop k) : Prop := match o with
  | some (.ol a xs) => k a xs
  | _ => False
omit [Tb] in
@[simp ↓] theorem olC_ol (a : Addr) (xs : List PyData) (k : Addr → List PyData → Prop) (u : Stop k) : olC (some (.ol a xs)) k u = k a xs := rfl
def asS (x : PyData) (k : List PyData → Prop) (_u : Stop k) : Prop := match x with
  | .tuple xs => k xs
  | .list xs => k xs
  | _ => False
omit [Tb] in
@[simp ↓] theorem asS_t (xs : List PyData) (k : List PyData → Prop) (u : Stop k) : asS (.tuple xs) k u = k xs := rfl
omit [Tb] in
@[simp ↓] theorem asS_l (xs : List PyData) (k : List PyData → Prop) (u : Stop k) : asS (.list xs) k u = k xs := rfl
omit [Tb] in
@[simp ↓] theorem wVar_ap (i : Nat) (δ : DS) (R : Opd → DS → Prop) : wVar i δ R = varC δ[i]? i (fun o => R o δ) .mk := rfl
omit [Tb] in
@[simp ↓] theorem wC_ap (x : PyData) (δ : DS) (R : Opd → DS → Prop) : wC x δ R = (R (.d x) δ) := rfl
omit [Tb] in
@[simp ↓] theorem wNil_ap (δ : DS) (R : List Opd → DS → Prop) : wNil  δ R = (R [] δ) := rfl
omit [Tb] in
@[simp ↓] theorem wCons_ap (w : DE) (r : DA) (δ : DS) (R : List Opd → DS → Prop) : wCons w r δ R = (w δ fun o δ1 => r δ1 fun os δ2 => R (o :: os) δ2) := rfl
omit [Tb] in
@[simp ↓] theorem wOp_ap (p : P2) (wa wb : DE) (δ : DS) (R : Opd → DS → Prop) : wOp p wa wb δ R = (wa δ fun o1 δ1 => wb δ1 fun o2 δ2 => use o1 δ2 fun x => use o2 δ2 fun y => p x y fun z => R (.d z) δ2) := rfl
omit [Tb] in
@[simp ↓] theorem wB_ap (w : DE) (δ : DS) (R : Bool → DS → Prop) : wB w δ R = (w δ fun o δ1 => use o δ1 fun x => asB x (fun b => R b δ1) .mk) := by
  unfold wB; simp only [← ex_bool, ← ex_int]
omit [Tb] in
@[simp ↓] theorem wChain_ap (p q : P2) (wa wb wc : DE) (δ : DS) (R : Opd → DS → Prop) : wChain p q wa wb wc δ R = (wa δ fun o1 δ1 => wb δ1 fun o2 δ2 => use o1 δ2 fun x => use o2 δ2 fun y => p x y fun z => asB z (fun k =>
  if k = true then wc δ2 fun o3 δ3 => use o2 δ3 fun y => use o3 δ3 fun w => q y w fun z => R (.d z) δ3 else R (.d (.bool false)) δ2) .mk) := by
  unfold wChain; simp only [← ex_bool, ← ex_int]
omit [Tb] in
@[simp ↓] theorem wAnd_ap (t u : DT) (δ : DS) (R : Bool → DS → Prop) : wAnd t u δ R = (t δ fun k δ1 => if k = true then u δ1 R else R false δ1) := rfl
omit [Tb] in
@[simp ↓] theorem wOr_ap (t u : DT) (δ : DS) (R : Bool → DS → Prop) : wOr t u δ R = (t δ fun k δ1 => if k = true then R true δ1 else u δ1 R) := rfl
omit [Tb] in
@[simp ↓] theorem wNot_ap (t : DT) (δ : DS) (R : Bool → DS → Prop) : wNot t δ R = (t δ fun k δ1 => R (!k) δ1) := rfl
omit [Tb] in
@[simp ↓] theorem wAndV_ap (w u : DE) (δ : DS) (R : Opd → DS → Prop) : wAndV w u δ R = (w δ fun o δ1 => use o δ1 fun x => asB x (fun k => if k = true then u δ1 R else R (.d (.bool false)) δ1) .mk) := by
  unfold wAndV; simp only [← ex_bool, ← ex_int]
omit [Tb] in
@[simp ↓] theorem wOrV_ap (w u : DE) (δ : DS) (R : Opd → DS → Prop) : wOrV w u δ R = (w δ fun o δ1 => use o δ1 fun x => asB x (fun k => if k = true then R (.d (.bool true)) δ1 else u δ1 R) .mk) := by
  unfold wOrV; simp only [← ex_bool, ← ex_int]
omit [Tb] in
@[simp ↓] theorem wNotV_ap (w : DE) (δ : DS) (R : Opd → DS → Prop) : wNotV w δ R = (w δ fun o δ1 => use o δ1 fun x => asB x (fun k => R (.d (.bool (!k))) δ1) .mk) := by
  unfold wNotV; simp only [← ex_bool, ← ex_int]
omit [Tb] in
@[simp ↓] theorem wIfE_ap (t : DT) (wa wb : DE) (δ : DS) (R : Opd → DS → Prop) : wIfE t wa wb δ R = (t δ fun k δ1 => if k = true then wa δ1 R else wb δ1 R) := rfl
omit [Tb] in
@[simp ↓] theorem wUn_ap (p : PyData → (PyData → Prop) → Prop) (w : DE) (δ : DS) (R : Opd → DS → Prop) : wUn p w δ R = (w δ fun o δ1 => use o δ1 fun x => p x fun z => R (.d z) δ1) := rfl
omit [Tb] in
@[simp ↓] theorem wTup_ap (w : DA) (δ : DS) (R : Opd → DS → Prop) : wTup w δ R = (w δ fun os δ1 => lkL os δ1 fun xs δ2 => xs.length ≤ 1000 ∧ R (.d (.tuple xs)) δ2) := rfl
omit [Tb] in
@[simp ↓] theorem wLst_ap (w : DA) (δ : DS) (R : List PyData → DS → Prop) : wLst w δ R = (w δ fun os δ1 => lkL os δ1 fun xs δ2 => xs.length ≤ 1000 ∧ R xs δ2) := rfl
omit [Tb] in
@[simp ↓] theorem wDic_ap (δ : DS) (R : Opd → DS → Prop) : wDic  δ R = (R (.d (.dict [])) δ) := rfl
omit [Tb] in
@[simp ↓] theorem wFn_ap (p : PN) (w : DA) (δ : DS) (R : Opd → DS → Prop) : wFn p w δ R = (w δ fun os δ1 => useL os δ1 fun xs => p xs fun z => R (.d z) δ1) := rfl
omit [Tb] in
@[simp ↓] theorem wFnL_ap (p : List PyData → (List PyData → Prop) → Prop) (w : DA) (δ : DS) (R : List PyData → DS → Prop) : wFnL p w δ R = (w δ fun os δ1 => useL os δ1 fun xs => p xs fun z => R z δ1) := rfl
omit [Tb] in
@[simp ↓] theorem wOpL_ap (p : P2L) (wa wb : DE) (δ : DS) (R : List PyData → DS → Prop) : wOpL p wa wb δ R = (wa δ fun o1 δ1 => wb δ1 fun o2 δ2 => use o1 δ2 fun x => use o2 δ2 fun y => p x y fun z => R z δ2) := rfl
omit [Tb] in
@[simp ↓] theorem wNoP_ap (δ : DS) (R : Option Int → DS → Prop) : wNoP  δ R = (R none δ) := rfl
omit [Tb] in
@[simp ↓] theorem wPart_ap (w : DE) (δ : DS) (R : Option Int → DS → Prop) : wPart w δ R = (w δ fun o δ1 => use o δ1 fun x => asI x (fun i => R (some i) δ1) .mk) := by
  unfold wPart; simp only [← ex_bool, ← ex_int]
omit [Tb] in
@[simp ↓] theorem wSl_ap (p : P3) (w : DE) (l h : DO) (δ : DS) (R : Opd → DS → Prop) : wSl p w l h δ R = (w δ fun o δ1 => l δ1 fun i δ2 => h δ2 fun j δ3 => use o δ3 fun x => p x i j fun z => R (.d z) δ3) := rfl
omit [Tb] in
@[simp ↓] theorem pSub_ap (i j : Int) (R : PyData → Prop) : pSub (.int i) (.int j) R = (R (.int (i - j))) := rfl
omit [Tb] in
@[simp ↓] theorem pMul_intiintj (i : Int) (j : Int) (R : PyData → Prop) : pMul (.int i) (.int j) R = ((CMul i j ∨ CMulW i j) ∧ R (.int (i * j))) := rfl
omit [Tb] in
@[simp ↓] theorem pMul_listxsintk (xs : List PyData) (k : Int) (R : PyData → Prop) : pMul (.list xs) (.int k) R = (0 ≤ k ∧ xs.length * k.toNat ≤ 1000000 ∧ k < 1000000 ∧ R (.list (List.replicate k.toNat xs).flatten)) := rfl
omit [Tb] in
@[simp ↓] theorem pDiv_ap (i j : Int) (R : PyData → Prop) : pDiv (.int i) (.int j) R = ((0 < j ∧ j.natAbs.log2 < 9000) ∧ R (.int (i / j))) := rfl
omit [Tb] in
@[simp ↓] theorem pMod_ap (i j : Int) (R : PyData → Prop) : pMod (.int i) (.int j) R = (0 < j ∧ R (.int (i % j))) := rfl
omit [Tb] in
@[simp ↓] theorem pPow_ap (i j : Int) (R : PyData → Prop) : pPow (.int i) (.int j) R = (CPow i j ∧ R (.int (i ^ j.toNat))) := rfl
omit [Tb] in
@[simp ↓] theorem pShl_ap (i j : Int) (R : PyData → Prop) : pShl (.int i) (.int j) R = (CPow i j ∧ R (.int (i * 2 ^ j.toNat))) := rfl
omit [Tb] in
@[simp ↓] theorem pAnd_ap (i j : Int) (R : PyData → Prop) : pAnd (.int i) (.int j) R = (R (.int (Builtin.bitAnd i j))) := rfl
omit [Tb] in
@[simp ↓] theorem pOr_ap (i j : Int) (R : PyData → Prop) : pOr (.int i) (.int j) R = (R (.int (Builtin.bitOr i j))) := rfl
omit [Tb] in
@[simp ↓] theorem pLt_intiintj (i : Int) (j : Int) (R : PyData → Prop) : pLt (.int i) (.int j) R = (R (.bool (decide (i < j)))) := rfl
omit [Tb] in
@[simp ↓] theorem pLe_ap (i j : Int) (R : PyData → Prop) : pLe (.int i) (.int j) R = (R (.bool (decide (i ≤ j)))) := rfl
omit [Tb] in
@[simp ↓] theorem pGt_ap (i j : Int) (R : PyData → Prop) : pGt (.int i) (.int j) R = (R (.bool (decide (j < i)))) := rfl
omit [Tb] in
@[simp ↓] theorem pGe_ap (i j : Int) (R : PyData → Prop) : pGe (.int i) (.int j) R = (R (.bool (decide (j ≤ i)))) := rfl
omit [Tb] in
@[simp ↓] theorem pAdd_intiintj (i : Int) (j : Int) (R : PyData → Prop) : pAdd (.int i) (.int j) R = (R (.int (i + j))) := rfl
omit [Tb] in
@[simp ↓] theorem pAdd_strastrb (a : Str) (b : Str) (R : PyData → Prop) : pAdd (.str a) (.str b) R = (a.length + b.length ≤ 1000000 ∧ R (.str (a ++ b))) := rfl
omit [Tb] in
@[simp ↓] theorem pAdd_tuplexstupleys (xs : List PyData) (ys : List PyData) (R : PyData → Prop) : pAdd (.tuple xs) (.tuple ys) R = (xs.length + ys.length ≤ 1000000 ∧ R (.tuple (xs ++ ys))) := rfl
omit [Tb] in
@[simp ↓] theorem pAdd_listxslistys (xs : List PyData) (ys : List PyData) (R : PyData → Prop) : pAdd (.list xs) (.list ys) R = (xs.length + ys.length ≤ 1000000 ∧ R (.list (xs ++ ys))) := rfl
omit [Tb] in
@[simp ↓] theorem pIs_boolaboolb (a : Bool) (b : Bool) (R : PyData → Prop) : pIs (.bool a) (.bool b) R = (R (.bool (decide (a = b)))) := rfl
omit [Tb] in
@[simp ↓] theorem pIsNot_boolaboolb (a : Bool) (b : Bool) (R : PyData → Prop) : pIsNot (.bool a) (.bool b) R = (R (.bool (!decide (a = b)))) := rfl
omit [Tb] in
@[simp ↓] theorem pIx_l (ds : List PyData) (i : Int) (R : PyData → Prop) : pIx (.list ds) (.int i) R = onS (atI ds i) R .mk := by rw [← ex_some]; rfl
omit [Tb] in
@[simp ↓] theorem pIx_t (ds : List PyData) (i : Int) (R : PyData → Prop) : pIx (.tuple ds) (.int i) R = onS (atI ds i) R .mk := by rw [← ex_some]; rfl
omit [Tb] in
@[simp ↓] theorem pIx_s (z : Str) (i : Int) (R : PyData → Prop) : pIx (.str z) (.int i) R = (z.length ≤ 1000000 ∧ onS (atI z.cps.toList i) (fun c => R (.str ⟨#[c]⟩)) .mk) := by rw [← ex_some]; rfl
omit [Tb] in
@[simp ↓] theorem mE_ap (w : DE) (δ : DS) (R : Cell → DS → Prop) : mE w δ R = (w δ fun o δ1 => lk o δ1 fun x δ2 => R (.d x) δ2) := rfl
omit [Tb] in
@[simp ↓] theorem mL_ap (w : DL) (δ : DS) (R : Cell → DS → Prop) : mL w δ R = (w δ fun xs δ1 => ∀ a, R (.ol a xs) δ1) := rfl
omit [Tb] in
@[simp ↓] theorem msNil_ap (δ : DS) (R : List Cell → DS → Prop) : msNil  δ R = (R [] δ) := rfl
omit [Tb] in
@[simp ↓] theorem msCons_ap (w : DM) (r : DMs) (δ : DS) (R : List Cell → DS → Prop) : msCons w r δ R = (w δ fun c δ1 => r δ1 fun cs δ2 => R (c :: cs) δ2) := rfl
omit [Tb] in
@[simp ↓] theorem wNext_ap (E : DEnds) (δ : DS) : wNext  E δ = (E.nx δ) := rfl
omit [Tb] in
@[simp ↓] theorem wSeq_ap (t u : DTS) (E : DEnds) (δ : DS) : wSeq t u E δ = (t { E with nx := u E } δ) := rfl
omit [Tb] in
@[simp ↓] theorem wBrk_ap (E : DEnds) (δ : DS) : wBrk  E δ = (E.bk δ) := rfl
omit [Tb] in
@[simp ↓] theorem wCnt_ap (E : DEnds) (δ : DS) : wCnt  E δ = (E.ct δ) := rfl
omit [Tb] in
@[simp ↓] theorem wRet_ap (w : DE) (E : DEnds) (δ : DS) : wRet w E δ = (w δ fun o δ1 => lk o δ1 fun x δ2 => E.rt x δ2) := rfl
omit [Tb] in
@[simp ↓] theorem wRetN_ap (E : DEnds) (δ : DS) : wRetN  E δ = (E.rt .none δ) := rfl
omit [Tb] in
@[simp ↓] theorem wIf_ap (c : DT) (t u : DTS) (E : DEnds) (δ : DS) : wIf c t u E δ = (c δ fun b δ1 => if b = true then t E δ1 else u E δ1) := rfl
omit [Tb] in
@[simp ↓] theorem wNever_ap (x0 : DEnds) (x1 : DS) : wNever  x0 x1 = (False) := rfl
omit [Tb] in
@[simp ↓] theorem wDrop_ap (w : DE) (E : DEnds) (δ : DS) : wDrop w E δ = (w δ fun _ δ1 => E.nx δ1) := rfl
omit [Tb] in
@[simp ↓] theorem wSet_ap (i : Nat) (w : DM) (E : DEnds) (δ : DS) : wSet i w E δ = (w δ fun c δ1 => E.nx (δ1.set i c)) := rfl
omit [Tb] in
@[simp ↓] theorem wPar2_ap (i j : Nat) (w : DMs) (E : DEnds) (δ : DS) : wPar2 i j w E δ = (w δ fun cs δ1 => match cs with
  | [c, d] => E.nx ((δ1.set i c).set j d)
  | _ => False) := by
  unfold wPar2
  congr 1; funext cs δ1
  match cs with
  | [] => simp
  | [c] => simp
  | [c, d] => exact propext ⟨fun ⟨c', d', e, h⟩ => by cases e; exact h, fun h => ⟨c, d, rfl, h⟩⟩
  | c :: d :: e :: r => simp
omit [Tb] in
@[simp ↓] theorem wAug_ap (i : Nat) (p : P2) (w : DE) (E : DEnds) (δ : DS) : wAug i p w E δ = onD δ[i]? (fun x => w δ fun o δ1 => use o δ1 fun y => p x y fun z => E.nx (δ1.set i (.d z))) .mk := by
  rw [← ex_d]; rfl
omit [Tb] in
@[simp ↓] theorem gN_ap (i : Nat) (x : PyData) (δ : DS) (R : DS → Prop) : gN i x δ R = (R (δ.set i (.d x))) := rfl
omit [Tb] in
@[simp ↓] theorem gsNil_ap (xs : List PyData) (δ : DS) (R : DS → Prop) : gsNil  xs δ R = (match xs with
  | [] => R δ
  | _ => False) := rfl
omit [Tb] in
@[simp ↓] theorem gsCons_ap (g : DTG) (r : DTGs) (xs : List PyData) (δ : DS) (R : DS → Prop) : gsCons g r xs δ R = (match xs with
  | x :: xs => g x δ fun δ1 => r xs δ1 R
  | [] => False) := rfl
omit [Tb] in
@[simp ↓] theorem gT_ap (r : DTGs) (x : PyData) (δ : DS) (R : DS → Prop) : gT r x δ R = (match x with
  | .tuple xs => r xs δ R
  | _ => False) := rfl
omit [Tb] in
@[simp ↓] theorem iSeq_ap (w : DE) (δ : DS) (R : List PyData → DS → Prop) : iSeq w δ R = (w δ fun o δ1 => lk o δ1 fun x δ2 => asS x (fun xs => R xs δ2) .mk) := rfl
def rng1 (xs : List PyData) (k : Int → Prop) (_u : Stop k) : Prop := ∃ j, xs = [PyData.int j] ∧ k j
def rng2 (xs : List PyData) (k : Int → Int → Prop) (_u : Stop k) : Prop := ∃ i j, xs = [PyData.int i, PyData.int j] ∧ k i j
omit [Tb] in
@[simp ↓] theorem rng1_i (j : Int) (k : Int → Prop) (u : Stop k) : rng1 [.int j] k u = k j := propext ⟨fun ⟨_, e, h⟩ => by cases e; exact h, fun h => ⟨j, rfl, h⟩⟩
omit [Tb] in
@[simp ↓] theorem rng2_i (i j : Int) (k : Int → Int → Prop) (u : Stop k) : rng2 [.int i, .int j] k u = k i j := propext ⟨fun ⟨_, _, e, h⟩ => by cases e; exact h, fun h => ⟨i, j, rfl, h⟩⟩
omit [Tb] in
@[simp ↓] theorem iRange1_ap (w : DA) (δ : DS) (R : List PyData → DS → Prop) : iRange1 w δ R = (w δ fun os δ1 => useL os δ1 fun xs => rng1 xs (fun j => -1000000 ≤ j ∧ j ≤ 1000000 ∧ R (nums 0 j.toNat) δ1) .mk) := rfl
omit [Tb] in
@[simp ↓] theorem iRange2_ap (w : DA) (δ : DS) (R : List PyData → DS → Prop) : iRange2 w δ R = (w δ fun os δ1 => useL os δ1 fun xs => rng2 xs (fun i j => (-1000000 ≤ i ∧ i ≤ 1000000 ∧ -1000000 ≤ j ∧ j ≤ 1000000) ∧ R (nums i (j - i).toNat) δ1) .mk) := rfl
omit [Tb] in
@[simp ↓] theorem wFor_ap (wi : DL) (g : DTG) (b : DTS) (E : DEnds) (δ : DS) : wFor wi g b E δ = (wi δ fun xs δ1 => forC g b xs δ1 E .mk) := rfl
omit [Tb] in
@[simp ↓] theorem wWhile_ap (c : DT) (b : DTS) (E : DEnds) (δ : DS) : wWhile c b E δ = whileC c b δ E .mk := rfl
omit [Tb] in
@[simp ↓] theorem wComp_ap (wi : DL) (g : DTG) (t : DT) (e : DE) (vs : List Nat) (δ : DS) (R : List PyData → DS → Prop) : wComp wi g t e vs δ R = (wi δ fun xs δ1 => comC g t e vs xs [] (wipeD δ1 vs) (fun ys δ2 => R ys (backD δ1 δ2 vs)) .mk) := rfl
omit [Tb] in
@[simp ↓] theorem wAppend_ap (i : Nat) (w : DE) (E : DEnds) (δ : DS) : wAppend i w E δ = (isOl δ i ∧ w δ fun o δ1 => lk o δ1 fun y δ2 => olC δ2[i]? (fun a xs => xs.length ≤ 1000000 ∧ E.nx (δ2.set i (.ol a (xs ++ [y])))) .mk) := rfl
omit [Tb] in
@[simp ↓] theorem wExtend_ap (i : Nat) (w : DE) (E : DEnds) (δ : DS) : wExtend i w E δ = (isOl δ i ∧ w δ fun o δ1 => use o δ1 fun y => ∃ ys, y = .list ys ∧ olC δ1[i]? (fun a xs => xs.length + ys.length ≤ 1000000 ∧ E.nx (δ1.set i (.ol a (xs ++ ys)))) .mk) := rfl
omit [Tb] in
@[simp ↓] theorem wPut_ap (i : Nat) (we wi : DE) (E : DEnds) (δ : DS) : wPut i we wi E δ = (we δ fun o δ1 => lk o δ1 fun y δ2 => isOl δ2 i ∧ wi δ2 fun oj δ3 => use oj δ3 fun j => asI j (fun j => olC δ3[i]? (fun a xs => ∃ n, ixN xs.length j = some n ∧ E.nx (δ3.set i (.ol a (xs.set n y)))) .mk) .mk) := by
  unfold wPut
  congr 1; funext o δ1; congr 1; funext y δ2; congr 1; congr 1; funext oj δ3; congr 1; funext j
  cases j <;> simp only [asI]
  cases δ3[i]? with
  | none => rfl
  | some c => cases c <;> rfl
omit [Tb] in
@[simp ↓] theorem wPop_ap (i : Nat) (δ : DS) (R : Opd → DS → Prop) : wPop i δ R = olC δ[i]? (fun a xs => onS xs.getLast? (fun y => R (.d y) (δ.set i (.ol a xs.dropLast))) .mk) .mk := by
  unfold wPop
  cases δ[i]? with
  | none => rfl
  | some c => cases c <;> first | rfl | exact ex_some _ _
omit [Tb] in
@[simp ↓] theorem wCall_ap (m : List Bool) (sp : DSp) (w : DA) (δ : DS) (R : Opd → DS → Prop) : wCall m sp w δ R = (w δ fun os δ1 => lkM m os δ1 fun os' δ2 => (slotsOf os').Nodup ∧ ask sp (os'.map (cellOf δ2)) (fun x cs => R (.d x) (putBack os' cs δ2)) .mk) := rfl
omit [Tb] in
@[simp ↓] theorem iZip2_ap (w : DA) (δ : DS) (R : List PyData → DS → Prop) : iZip2 w δ R = (w δ fun os δ1 => lkL os δ1 fun ds δ2 => match ds with
  | [a, b] => onS (seqOf a) (fun xs => onS (seqOf b) (fun ys => R (pairsD xs ys) δ2) .mk) .mk
  | _ => False) := by
  unfold iZip2; simp only [← ex_some, ← exists_and_left] <;> rfl
omit [Tb] in
@[simp ↓] theorem iZip3_ap (w : DA) (δ : DS) (R : List PyData → DS → Prop) : iZip3 w δ R = (w δ fun os δ1 => lkL os δ1 fun ds δ2 => match ds with
  | [a, b, c] => onS (seqOf a) (fun xs => onS (seqOf b) (fun ys => onS (seqOf c) (fun zs => R (triosD xs ys zs) δ2) .mk) .mk) .mk
  | _ => False) := by
  unfold iZip3; simp only [← ex_some, ← exists_and_left] <;> rfl
omit [Tb] in
@[simp ↓] theorem iEnumD_ap (w : DA) (δ : DS) (R : List PyData → DS → Prop) : iEnumD w δ R = (w δ fun os δ1 => lkL os δ1 fun ds δ2 => match ds with
  | [a] => onS (seqOf a) (fun xs => R (numbered 0 xs) δ2) .mk
  | _ => False) := by
  unfold iEnumD; simp only [← ex_some] <;> rfl
omit [Tb] in
@[simp ↓] theorem use_d (x : PyData) (δ : DS) (k : PyData → Prop) : use (.d x) δ k = k x := rfl
omit [Tb] in
@[simp ↓] theorem use_s (i : Nat) (δ : DS) (k : PyData → Prop) : use (.s i) δ k = useC δ[i]? k .mk := rfl
omit [Tb] in
@[simp ↓] theorem lk_d (x : PyData) (δ : DS) (k : PyData → DS → Prop) : lk (.d x) δ k = k x δ := rfl
omit [Tb] in
@[simp ↓] theorem lk_s (i : Nat) (δ : DS) (k : PyData → DS → Prop) : lk (.s i) δ k = lkC δ[i]? (fun x => k x δ) (fun x => k x (δ.set i (.d x))) .mk .mk := by
  show (match δ[i]? with
    | some (.d x) => k x δ
    | some (.ol _ xs) => k (.list xs) (δ.set i (.d (.list xs)))
    | _ => False) = _
  unfold lkC
  cases δ[i]? with
  | none => rfl
  | some c => cases c <;> rfl
omit [Tb] in
@[simp ↓] theorem useL_nil (δ : DS) (k : List PyData → Prop) : useL [] δ k = k [] := rfl
omit [Tb] in
@[simp ↓] theorem useL_cons (o : Opd) (os : List Opd) (δ : DS) (k : List PyData → Prop) : useL (o :: os) δ k = (use o δ fun x => useL os δ fun xs => k (x :: xs)) := rfl
omit [Tb] in
@[simp ↓] theorem lkL_nil (δ : DS) (k : List PyData → DS → Prop) : lkL [] δ k = k [] δ := rfl
omit [Tb] in
@[simp ↓] theorem lkL_cons (o : Opd) (os : List Opd) (δ : DS) (k : List PyData → DS → Prop) : lkL (o :: os) δ k = (lk o δ fun x δ1 => lkL os δ1 fun xs δ2 => k (x :: xs) δ2) := rfl
omit [Tb] in
@[simp ↓] theorem lkM_nil (m : List Bool) (δ : DS) (k : List Opd → DS → Prop) : lkM m [] δ k = k [] δ := by unfold lkM; rfl
omit [Tb] in
@[simp ↓] theorem lkM_t (m : List Bool) (o : Opd) (os : List Opd) (δ : DS) (k : List Opd → DS → Prop) : lkM (true :: m) (o :: os) δ k = (lkM m os δ fun r δ' => k (o :: r) δ') := by
  conv => lhs; unfold lkM
  rfl
omit [Tb] in
@[simp ↓] theorem lkM_f (m : List Bool) (o : Opd) (os : List Opd) (δ : DS) (k : List Opd → DS → Prop) : lkM (false :: m) (o :: os) δ k = (lk o δ fun x δ1 => lkM m os δ1 fun r δ' => k (.d x :: r) δ') := by
  conv => lhs; unfold lkM
  rfl
omit [Tb] in
@[simp ↓] theorem lkM_0 (o : Opd) (os : List Opd) (δ : DS) (k : List Opd → DS → Prop) : lkM [] (o :: os) δ k = (lk o δ fun x δ1 => lkM [] os δ1 fun r δ' => k (.d x :: r) δ') := by
  conv => lhs; unfold lkM
  rfl
omit [Tb] in
@[simp] theorem cellOf_d (δ : DS) (x : PyData) : cellOf δ (.d x) = .d x := rfl
omit [Tb] in
@[simp] theorem cellOf_s (δ : DS) (i : Nat) : cellOf δ (.s i) = (δ[i]?).getD .em := rfl
omit [Tb] in
@[simp ↓] theorem putBack_nil (cs : List Cell) (δ : DS) : putBack [] cs δ = δ := by cases cs <;> rfl
omit [Tb] in
@[simp ↓] theorem putBack_s (i : Nat) (os : List Opd) (c : Cell) (cs : List Cell) (δ : DS) : putBack (.s i :: os) (c :: cs) δ = putBack os cs (δ.set i c) := rfl
omit [Tb] in
@[simp ↓] theorem putBack_d (x : PyData) (os : List Opd) (c : Cell) (cs : List Cell) (δ : DS) : putBack (.d x :: os) (c :: cs) δ = putBack os cs δ := rfl
omit [Tb] in
@[simp] theorem slotsOf_nil : slotsOf [] = [] := rfl
omit [Tb] in
@[simp] theorem slotsOf_s (i : Nat) (os : List Opd) : slotsOf (.s i :: os) = i :: slotsOf os := rfl
omit [Tb] in
@[simp] theorem slotsOf_d (x : PyData) (os : List Opd) : slotsOf (.d x :: os) = slotsOf os := rfl
omit [Tb] in
@[simp ↓] theorem pNeg_i (i : Int) (R : PyData → Prop) : pNeg (.int i) R = R (.int (-i)) := rfl
omit [Tb] in
@[simp ↓] theorem pIs_n (x : PyData) (R : PyData → Prop) : pIs x .none R = R (.bool (isNone x)) := by cases x <;> rfl
omit [Tb] in
@[simp ↓] theorem pIsNot_n (x : PyData) (R : PyData → Prop) : pIsNot x .none R = R (.bool (!isNone x)) := by cases x <;> rfl
omit [Tb] in
@[simp ↓] theorem isNone_n : isNone .none = true := rfl
omit [Tb] in
@[simp ↓] theorem isNone_i (i : Int) : isNone (.int i) = false := rfl
omit [Tb] in
@[simp ↓] theorem isNone_b (i : Bool) : isNone (.bool i) = false := rfl
omit [Tb] in
@[simp ↓] theorem isNone_s (i : Str) : isNone (.str i) = false := rfl
omit [Tb] in
@[simp ↓] theorem isNone_l (i : List PyData) : isNone (.list i) = false := rfl
omit [Tb] in
@[simp ↓] theorem isNone_t (i : List PyData) : isNone (.tuple i) = false := rfl
omit [Tb] in
@[simp ↓] theorem isNone_d (i : List (PyData × PyData)) : isNone (.dict i) = false := rfl
omit [Tb] in
@[simp ↓] theorem pAddL_ll (xs ys : List PyData) (R : List PyData → Prop) : pAddL (.list xs) (.list ys) R = (xs.length + ys.length ≤ 1000000 ∧ R (xs ++ ys)) := rfl
omit [Tb] in
@[simp ↓] theorem pMulL_ll (xs : List PyData) (k : Int) (R : List PyData → Prop) : pMulL (.list xs) (.int k) R = (0 ≤ k ∧ xs.length * k.toNat ≤ 1000000 ∧ k < 1000000 ∧ R (List.replicate k.toNat xs).flatten) := rfl
omit [Tb] in
@[simp ↓] theorem pIn_l (x : PyData) (ds : List PyData) (R : PyData → Prop) : pIn x (.list ds) R = (SeqAt.shaped x = true ∧ SeqAt.shaped (.list ds) = true ∧ R (.bool (ds.any fun z => PyData.eqv z x))) := rfl
omit [Tb] in
@[simp ↓] theorem pIn_t (x : PyData) (ds : List PyData) (R : PyData → Prop) : pIn x (.tuple ds) R = (SeqAt.shaped x = true ∧ SeqAt.shaped (.tuple ds) = true ∧ R (.bool (ds.any fun z => PyData.eqv z x))) := rfl
omit [Tb] in
@[simp ↓] theorem pIn_s (x : PyData) (z : Str) (R : PyData → Prop) : pIn x (.str z) R = (∃ c : Nat, x = .str ⟨#[c]⟩ ∧ R (.bool (decide (c ∈ z.cps.toList)))) := rfl
omit [Tb] in
@[simp ↓] theorem pNotIn_l (x : PyData) (ds : List PyData) (R : PyData → Prop) : pNotIn x (.list ds) R = (SeqAt.shaped x = true ∧ SeqAt.shaped (.list ds) = true ∧ R (.bool (!ds.any fun z => PyData.eqv z x))) := rfl
omit [Tb] in
@[simp ↓] theorem pNotIn_t (x : PyData) (ds : List PyData) (R : PyData → Prop) : pNotIn x (.tuple ds) R = (SeqAt.shaped x = true ∧ SeqAt.shaped (.tuple ds) = true ∧ R (.bool (!ds.any fun z => PyData.eqv z x))) := rfl
omit [Tb] in
@[simp ↓] theorem pNotIn_s (x : PyData) (z : Str) (R : PyData → Prop) : pNotIn x (.str z) R = (∃ c : Nat, x = .str ⟨#[c]⟩ ∧ R (.bool (!decide (c ∈ z.cps.toList)))) := rfl
omit [Tb] in
@[simp ↓] theorem pSl_l (ds : List PyData) (lo hi : Option Int) (R : PyData → Prop) : pSl (.list ds) lo hi R = R (.list (cutD ds lo hi)) := rfl
omit [Tb] in
@[simp ↓] theorem pSl_t (ds : List PyData) (lo hi : Option Int) (R : PyData → Prop) : pSl (.tuple ds) lo hi R = R (.tuple (cutD ds lo hi)) := rfl
omit [Tb] in
@[simp ↓] theorem pSl_s (z : Str) (lo hi : Option Int) (R : PyData → Prop) : pSl (.str z) lo hi R = (z.length ≤ 1000000 ∧ R (.str (cutS z lo hi))) := rfl
omit [Tb] in
@[simp ↓] theorem pLen_l (ds : List PyData) (R : PyData → Prop) : pLen [.list ds] R = R (.int ds.length) := rfl
omit [Tb] in
@[simp ↓] theorem pLen_t (ds : List PyData) (R : PyData → Prop) : pLen [.tuple ds] R = R (.int ds.length) := rfl
omit [Tb] in
@[simp ↓] theorem pLen_s (z : Str) (R : PyData → Prop) : pLen [.str z] R = (z.length ≤ 1000000 ∧ R (.int z.length)) := rfl
omit [Tb] in
@[simp ↓] theorem pTupOf_l (ds : List PyData) (R : PyData → Prop) : pTupOf [.list ds] R = R (.tuple ds) := rfl
omit [Tb] in
@[simp ↓] theorem pTupOf_t (ds : List PyData) (R : PyData → Prop) : pTupOf [.tuple ds] R = R (.tuple ds) := rfl
omit [Tb] in
@[simp ↓] theorem pLstOf_l (ds : List PyData) (R : List PyData → Prop) : pLstOf [.list ds] R = R ds := rfl
omit [Tb] in
@[simp ↓] theorem pLstOf_t (ds : List PyData) (R : List PyData → Prop) : pLstOf [.tuple ds] R = R ds := rfl
omit [Tb] in
@[simp ↓] theorem pInt_i (i : Int) (R : PyData → Prop) : pInt [.int i] R = R (.int i) := rfl
omit [Tb] in
@[simp ↓] theorem pInt_b (b : Bool) (R : PyData → Prop) : pInt [.bool b] R = R (.int (if b then 1 else 0)) := rfl
omit [Tb] in
@[simp ↓] theorem pInt_s (z : Str) (R : PyData → Prop) : pInt [.str z] R = (∃ n, PySem.intText? z = some n ∧ z.length ≤ 640 ∧ R (.int n)) := rfl
omit [Tb] in
@[simp ↓] theorem pBool_i (i : Int) (R : PyData → Prop) : pBool [.int i] R = R (.bool (i != 0)) := rfl
omit [Tb] in
@[simp ↓] theorem pBool_b (b : Bool) (R : PyData → Prop) : pBool [.bool b] R = R (.bool b) := rfl
omit [Tb] in
@[simp ↓] theorem pStr_i (i : Int) (R : PyData → Prop) : pStr [.int i] R = (i.natAbs.log2 < 1920 ∧ R (.str (toString i))) := rfl
omit [Tb] in
@[simp ↓] theorem pStr_s (z : Str) (R : PyData → Prop) : pStr [.str z] R = R (.str z) := rfl
omit [Tb] in
@[simp ↓] theorem pAbs_i (i : Int) (R : PyData → Prop) : pAbs [.int i] R = R (.int (if i < 0 then -i else i)) := rfl
omit [Tb] in
@[simp ↓] theorem pMax2_i (i j : Int) (R : PyData → Prop) : pMax2 [.int i, .int j] R = R (.int (if j > i then j else i)) := rfl
omit [Tb] in
@[simp ↓] theorem pMin2_i (i j : Int) (R : PyData → Prop) : pMin2 [.int i, .int j] R = R (.int (if j < i then j else i)) := rfl
omit [Tb] in
@[simp ↓] theorem pSum_l (ds : List PyData) (R : PyData → Prop) : pSum [.list ds] R = onIs ds (fun ns => R (.int ns.sum)) .mk := rfl
omit [Tb] in
@[simp ↓] theorem pMax_l (ds : List PyData) (R : PyData → Prop) : pMax [.list ds] R = onIs ds (fun ns => 0 < ns.length ∧ ∀ m, m ∈ ns → (∀ y ∈ ns, y ≤ m) → R (.int m)) .mk := rfl
omit [Tb] in
@[simp ↓] theorem pMin_l (ds : List PyData) (R : PyData → Prop) : pMin [.list ds] R = onIs ds (fun ns => 0 < ns.length ∧ ∀ m, m ∈ ns → (∀ y ∈ ns, m ≤ y) → R (.int m)) .mk := rfl
omit [Tb] in
@[simp ↓] theorem pAll_l (ds : List PyData) (R : PyData → Prop) : pAll [.list ds] R = onBs ds (fun bs => R (.bool (allTr bs))) .mk := rfl
omit [Tb] in
@[simp ↓] theorem pAny_l (ds : List PyData) (R : PyData → Prop) : pAny [.list ds] R = onBs ds (fun bs => R (.bool (anyTr bs))) .mk := rfl
omit [Tb] in
@[simp ↓] theorem pRepr_x (x : PyData) (R : PyData → Prop) : pRepr [x] R = (x.showable = true ∧ x.hasDict = false ∧ x.depth ≤ 60 ∧ x.shown.length ≤ 16000000 ∧ R (.str x.shown)) := rfl
omit [Tb] in
@[simp ↓] theorem wIsi_ap (T : String) (w : DE) (δ : DS) (R : Opd → DS → Prop) : wIsi T w δ R = (w δ fun o δ1 => use o δ1 fun x => R (.d (.bool (isTy T x))) δ1) := rfl
omit [Tb] in
@[simp ↓] theorem wRevL_ap (w : DE) (δ : DS) (R : Opd → DS → Prop) : wRevL w δ R = (w δ fun o δ1 => use o δ1 fun x => ∃ ds, x = .list ds ∧ R (.d (.list ds.reverse)) δ1) := rfl
omit [Tb] in
@[simp] theorem tT_ap (δ : DS) (R : Bool → DS → Prop) : tT δ R = R true δ := rfl
omit [Tb] in
@[simp ↓] theorem wipeD_nil (δ : DS) : wipeD δ [] = δ := rfl
omit [Tb] in
@[simp ↓] theorem wipeD_cons (δ : DS) (v : Nat) (vs : List Nat) : wipeD δ (v :: vs) = (wipeD δ vs).set v .em := rfl
omit [Tb] in
@[simp] theorem backD_nil (δ0 δ : DS) : backD δ0 δ [] = δ := rfl
omit [Tb] in
@[simp] theorem backD_cons (δ0 δ : DS) (v : Nat) (vs : List Nat) : backD δ0 δ (v :: vs) = (backD δ0 δ vs).set v (keepC ((δ0[v]?).getD .em)) := rfl
omit [Tb] in
@[simp] theorem keepC_d (x : PyData) : keepC (.d x) = .d x := rfl
omit [Tb] in
@[simp] theorem keepC_em : keepC .em = .em := rfl
omit [Tb] in
@[simp ↓] theorem isOl_ol (a : Addr) (xs : List PyData) (δ : DS) (i : Nat) (h : δ[i]? = some (.ol a xs)) : isOl δ i = True := eq_true ⟨a, xs, h⟩
omit [Tb] in
@[simp] theorem seqOf_l (xs : List PyData) : seqOf (.list xs) = some xs := rfl
omit [Tb] in
@[simp] theorem seqOf_t (xs : List PyData) : seqOf (.tuple xs) = some xs := rfl
omit [Tb] in
@[simp] theorem endsOf_nx (cs : List Cell) (R : PyData → List Cell → Prop) (δ : DS) : (endsOf cs R).nx δ = (sameIo cs δ ∧ R .none (outC cs δ)) := rfl
omit [Tb] in
@[simp] theorem endsOf_rt (cs : List Cell) (R : PyData → List Cell → Prop) (x : PyData) (δ : DS) : (endsOf cs R).rt x δ = (sameIo cs δ ∧ R x (outC cs δ)) := rfl
omit [Tb] in
@[simp] theorem sameIo_nil (δ : DS) : sameIo [] δ = True := by unfold sameIo; rfl
omit [Tb] in
@[simp] theorem sameIo_d (x : PyData) (cs : List Cell) (e : Cell) (δ : DS) : sameIo (.d x :: cs) (e :: δ) = sameIo cs δ := rfl
omit [Tb] in
@[simp] theorem sameIo_em (cs : List Cell) (e : Cell) (δ : DS) : sameIo (.em :: cs) (e :: δ) = sameIo cs δ := rfl
omit [Tb] in
@[simp] theorem sameIo_scr (a : Addr) (ns : List Int) (cs : List Cell) (e : Cell) (δ : DS) : sameIo (.scr a ns :: cs) (e :: δ) = sameIo cs δ := rfl
omit [Tb] in
@[simp] theorem sameIo_ol (a : Addr) (xs : List PyData) (cs : List Cell) (e : Cell) (δ : DS) : sameIo (.ol a xs :: cs) (e :: δ) = ((∃ ys, e = .ol a ys) ∧ sameIo cs δ) := rfl
omit [Tb] in
@[simp] theorem sameIo_dk (a b c : Addr) (cs : List Cell) (e : Cell) (δ : DS) : sameIo (.dk a b c :: cs) (e :: δ) = (e = .dk a b c ∧ sameIo cs δ) := rfl
omit [Tb] in
@[simp] theorem outC_nil (δ : DS) : outC [] δ = [] := by unfold outC; rfl
omit [Tb] in
@[simp] theorem outC_d (x : PyData) (cs : List Cell) (e : Cell) (δ : DS) : outC (.d x :: cs) (e :: δ) = .d x :: outC cs δ := rfl
omit [Tb] in
@[simp] theorem outC_em (cs : List Cell) (e : Cell) (δ : DS) : outC (.em :: cs) (e :: δ) = .em :: outC cs δ := rfl
omit [Tb] in
@[simp] theorem outC_scr (a : Addr) (ns : List Int) (cs : List Cell) (e : Cell) (δ : DS) : outC (.scr a ns :: cs) (e :: δ) = .scr a ns :: outC cs δ := rfl
omit [Tb] in
@[simp] theorem outC_ol (a : Addr) (xs : List PyData) (cs : List Cell) (e : Cell) (δ : DS) : outC (.ol a xs :: cs) (e :: δ) = e :: outC cs δ := rfl
omit [Tb] in
@[simp] theorem outC_dk (a b c : Addr) (cs : List Cell) (e : Cell) (δ : DS) : outC (.dk a b c :: cs) (e :: δ) = e :: outC cs δ := rfl
omit [Tb] in
@[simp] theorem start0_ap (n : Nat) (cs : List Cell) : start0 n cs = cs ++ List.replicate (n - cs.length) .em := rfl
theorem for_inv {g : DTG} {b : DTS} {xs : List PyData} {δ : DS} {E : DEnds} {u : Stop E} (P : List PyData → DS → Prop) (Q : DS → Prop) (Z : PyData → DS → Prop) (h : P xs δ) (h0 : ∀ δ, P [] δ → E.nx δ) (hq : ∀ δ, Q δ → E.nx δ) (hz : ∀ x δ, Z x δ → E.rt x δ)
    (hs : ∀ x xs δ, P (x :: xs) δ → ∀ (K B : DS → Prop) (T : PyData → DS → Prop), (∀ δ', P xs δ' → K δ') → (∀ δ', Q δ' → B δ') → (∀ x δ', Z x δ' → T x δ') → g x δ fun δ1 => b { nx := K, rt := T, bk := B, ct := K } δ1) : forC g b xs δ E u := by
  show forIt g b xs E δ
  induction xs generalizing δ with
  | nil => exact h0 δ h
  | cons x xs ih => exact hs x xs δ h _ _ _ (fun δ' p => ih p) hq hz
theorem com_inv {g : DTG} {t : DT} {e : DE} {vs : List Nat} {xs acc : List PyData} {δ : DS} {R : List PyData → DS → Prop} {u : Stop R} (P : List PyData → List PyData → DS → Prop) (h : P xs acc δ) (h0 : ∀ acc δ, P [] acc δ → R acc δ)
    (hs : ∀ x xs acc δ, P (x :: xs) acc δ → ∀ K : List PyData → DS → Prop, (∀ acc' δ', P xs acc' δ' → K acc' δ') → g x δ fun δ1 => t δ1 fun b δ2 => if b = true then e δ2 fun o δ3 => lk o δ3 fun y δ4 => K (acc ++ [y]) (wipeD δ4 vs) else K acc (wipeD δ2 vs)) : comC g t e vs xs acc δ R u := by
  show compIt g t e vs xs acc δ R
  induction xs generalizing acc δ with
  | nil => exact h0 acc δ h
  | cons x xs ih => exact hs x xs acc δ h (fun acc' δ' => compIt g t e vs xs acc' δ' R) fun acc' δ' p => ih p
/-- each item by one of many -/
theorem com_any {g : DTG} {t : DT} {e : DE} {vs : List Nat} {xs : List PyData} {δ : DS} {R : List PyData → DS → Prop} {u : Stop R} (Q : PyData → Prop)
    (hs : ∀ x ∈ xs, ∀ (acc : List PyData) (K : List PyData → DS → Prop), (∀ y, Q y → K (acc ++ [y]) δ) → g x δ fun δ1 => t δ1 fun b δ2 => if b = true then e δ2 fun o δ3 => lk o δ3 fun y δ4 => K (acc ++ [y]) (wipeD δ4 vs) else K acc (wipeD δ2 vs)) (k : ∀ ys, ys.length = xs.length → (∀ y ∈ ys, Q y) → R ys δ) : comC g t e vs xs [] δ R u := by
  refine com_inv (fun ys acc δ' => δ' = δ ∧ (∀ x ∈ ys, x ∈ xs) ∧ (∀ y ∈ acc, Q y) ∧ acc.length + ys.length = xs.length) ⟨rfl, fun _ h => h, by simp, by simp⟩ ?_ ?_
  · rintro acc δ' ⟨rfl, _, h, hl⟩
    exact k acc (by simpa using hl) h
  · rintro x ys acc δ' ⟨rfl, hm, h, hl⟩ K hK
    refine hs x (hm x (List.mem_cons_self ..)) acc K fun y qy => hK _ _ ⟨rfl, fun y hy => hm y (List.mem_cons_of_mem _ hy), fun z hz => ?_, by simp at hl ⊢; omega⟩
    rcases List.mem_append.mp hz with q | q
    · exact h z q
    · rw [List.mem_singleton.mp q]; exact qy
theorem ints_of : ∀ {ys : List PyData} {P : Int → Prop}, (∀ y ∈ ys, ∃ i, y = .int i ∧ P i) → ∃ ns : List Int, ys = ns.map PyData.int ∧ ∀ i ∈ ns, P i
  | [], _, _ => ⟨[], rfl, by simp⟩
  | y :: ys, P, h => by
    obtain ⟨i, rfl, hi⟩ := h y (List.mem_cons_self ..)
    obtain ⟨ns, rfl, hn⟩ := ints_of (ys := ys) fun z hz => h z (List.mem_cons_of_mem _ hz)
    exact ⟨i :: ns, rfl, fun j hj => by
      rcases List.mem_cons.mp hj with q | q
      · rw [q]; exact hi
      · exact hn j q⟩
/-- .. that are numbers -/
theorem com_ints {g : DTG} {t : DT} {e : DE} {vs : List Nat} {xs : List PyData} {δ : DS} {R : List PyData → DS → Prop} {u : Stop R} (P : Int → Prop)
    (hs : ∀ x ∈ xs, ∀ (acc : List PyData) (K : List PyData → DS → Prop), (∀ i, P i → K (acc ++ [.int i]) δ) → g x δ fun δ1 => t δ1 fun b δ2 => if b = true then e δ2 fun o δ3 => lk o δ3 fun y δ4 => K (acc ++ [y]) (wipeD δ4 vs) else K acc (wipeD δ2 vs)) (k : ∀ ns : List Int, ns.length = xs.length → (∀ i ∈ ns, P i) → R (ns.map PyData.int) δ) : comC g t e vs xs [] δ R u :=
  com_any (fun y => ∃ i, y = .int i ∧ P i) (fun x hx acc K hK => hs x hx acc K fun i hi => hK _ ⟨i, rfl, hi⟩) fun ys hl hy => by
    obtain ⟨ns, rfl, hn⟩ := ints_of hy
    exact k ns (by simpa using hl) hn
omit [Tb] in
@[simp ↓] theorem pEq_ii (i j : Int) (R : PyData → Prop) : pEq (.int i) (.int j) R = R (.bool (decide (i = j))) := by
  unfold pEq; simp [sc2, PyData.eqv]; rfl
omit [Tb] in
@[simp ↓] theorem pEq_ss (i j : Str) (R : PyData → Prop) : pEq (.str i) (.str j) R = R (.bool (decide (i = j))) := by
  unfold pEq; simp [sc2, PyData.eqv]
  have : (i == j) = decide (i = j) := by rw [Bool.eq_iff_iff]; simp
  rw [this]
omit [Tb] in
@[simp ↓] theorem pEq_bb (i j : Bool) (R : PyData → Prop) : pEq (.bool i) (.bool j) R = R (.bool (i == j)) := by
  unfold pEq; simp [sc2, PyData.eqv]
omit [Tb] in
@[simp ↓] theorem pEq_tt (xs ys : List PyData) (R : PyData → Prop) : pEq (.tuple xs) (.tuple ys) R = (SeqAt.shaped (.tuple xs) = true ∧ SeqAt.shaped (.tuple ys) = true ∧ R (.bool (PyData.eqvAll xs ys))) := by
  unfold pEq; simp [sc2, PyData.eqv, and_assoc]
omit [Tb] in
@[simp ↓] theorem pEq_ll (xs ys : List PyData) (R : PyData → Prop) : pEq (.list xs) (.list ys) R = (SeqAt.shaped (.list xs) = true ∧ SeqAt.shaped (.list ys) = true ∧ R (.bool (PyData.eqvAll xs ys))) := by
  unfold pEq; simp [sc2, PyData.eqv, and_assoc]
omit [Tb] in
@[simp ↓] theorem pNe_ii (i j : Int) (R : PyData → Prop) : pNe (.int i) (.int j) R = R (.bool (!decide (i = j))) := by
  unfold pNe; simp [sc2, PyData.eqv]; rfl
omit [Tb] in
@[simp ↓] theorem pNe_ss (i j : Str) (R : PyData → Prop) : pNe (.str i) (.str j) R = R (.bool (!decide (i = j))) := by
  unfold pNe; simp [sc2, PyData.eqv]
  have : (i == j) = decide (i = j) := by rw [Bool.eq_iff_iff]; simp
  simp only [bne, this]
omit [Tb] in
@[simp ↓] theorem pNe_bb (i j : Bool) (R : PyData → Prop) : pNe (.bool i) (.bool j) R = R (.bool (!(i == j))) := by
  unfold pNe; simp [sc2, PyData.eqv]
omit [Tb] in
@[simp ↓] theorem pNe_tt (xs ys : List PyData) (R : PyData → Prop) : pNe (.tuple xs) (.tuple ys) R = (SeqAt.shaped (.tuple xs) = true ∧ SeqAt.shaped (.tuple ys) = true ∧ R (.bool (!PyData.eqvAll xs ys))) := by
  unfold pNe; simp [sc2, PyData.eqv, and_assoc]
omit [Tb] in
@[simp ↓] theorem pNe_ll (xs ys : List PyData) (R : PyData → Prop) : pNe (.list xs) (.list ys) R = (SeqAt.shaped (.list xs) = true ∧ SeqAt.shaped (.list ys) = true ∧ R (.bool (!PyData.eqvAll xs ys))) := by
  unfold pNe; simp [sc2, PyData.eqv, and_assoc]
end DL
set_option Elab.async false
set_option linter.all false
set_option maxRecDepth 100000
set_option maxHeartbeats 4000000
namespace DL
open PySem PySem.Spec PyProof.Rows L2
variable [Tb]

section
variable {K : PySem.W.Frag} {B B0 G H : Hp} {δ : DS} {σ : L2.St}
theorem Rel.less (R : Rel K B G δ σ H) (h : ∀ a, B0 a = B a ∨ B0 a = none) : Rel K B0 G δ σ H := by
  refine ⟨R.len, R.sg, fun a o e => ?_, fun a => ?_, R.ok, R.ap, fun i c a e m => ?_, ⟨R.tt.t, R.tt.n.lessB fun a o e => by
    rcases h a with z | z
    · rw [z] at e; exact e
    · rw [z] at e; cases e⟩⟩
  · rcases h a with z | z
    · rw [z] at e; exact R.sb _ _ e
    · rw [z] at e; cases e
  · rcases h a with z | z
    · rw [z]; exact R.dj a
    · exact .inr z
  · obtain ⟨f1, f2⟩ := R.fr i c a e m
    refine ⟨f1, ?_⟩
    rcases h a with z | z
    · rw [z]; exact f2
    · exact z
theorem Rel.more {l : List Addr} (R : Rel K B G δ σ H) (hg : ∀ a ∈ l, G a = none) (hc : ∀ (i : Nat) (c : Cell) (a : Addr), δ[i]? = some c → a ∈ c.fp → a ∉ l) (hn : ∀ a ∈ l, ∀ o, H a = some o → notTE o) : Rel K (bov B H l) G δ σ H := by
  refine ⟨R.len, R.sg, fun a o e => ?_, fun a => ?_, R.ok, R.ap, fun i c a e m => ?_, ⟨R.tt.t, ⟨fun a o e => by
    unfold bov at e
    split at e
    · rename_i hm; exact hn a hm o e
    · exact R.tt.n.b a o e, R.tt.n.g⟩⟩⟩
  · unfold bov at e
    split at e
    · exact e
    · exact R.sb _ _ e
  · unfold bov
    split
    · rename_i hm; exact .inl (hg a hm)
    · exact R.dj a
  · obtain ⟨f1, f2⟩ := R.fr i c a e m
    refine ⟨f1, ?_⟩
    unfold bov
    rw [if_neg (hc i c a e m)]; exact f2
end

abbrev DSpM := List Cell → (Cell → List Cell → Prop) → Prop
def liftM (K : PySem.W.Frag) (sp : DSpM) : Sp := fun vs H Q _ => ∃ B G cs R, Rel K B G cs (vs.map some) H ∧ sp cs R ∧ ∀ v H' G' c cs', R c cs' → Same G G' → Rel K (bov B H' c.fp) G' cs' (vs.map some) H' → (∀ a ∈ c.fp, B a = none) → CellOk K G' H' c (some v) → Q v H'
def wCallM (m : List Bool) (sp : DSpM) (w : DA) : DM := fun δ R => w δ fun os δ1 => lkM m os δ1 fun os' δ2 => (slotsOf os').Nodup ∧ sp (os'.map (cellOf δ2)) fun c cs => R c (putBack os' cs δ2)
def askM (sp : DSpM) (cs : List Cell) (R : Cell → List Cell → Prop) (_u : Stop R) : Prop := sp cs R
omit [Tb] in
@[simp ↓] theorem wCallM_ap (m : List Bool) (sp : DSpM) (w : DA) (δ : DS) (R : Cell → DS → Prop) : wCallM m sp w δ R = (w δ fun os δ1 => lkM m os δ1 fun os' δ2 => (slotsOf os').Nodup ∧ askM sp (os'.map (cellOf δ2)) (fun c cs => R c (putBack os' cs δ2)) .mk) := rfl
section
variable {X : Cx} {k : Nat} {f : Addr} {fd : FuncData} {ps : List Str} {x : Str} {p pos : Pos} {e : Expr} {es : List Expr}
theorem jm_call {m : List Bool} {sp : DSpM} {w : DA} (F : FnG X.prog X.w X.K X.mg X.base CX0 k f fd ps (liftM X.K sp)) (hr : RoomG k X.A) (hg : Gl X x) (hm : X.mg x = some (.ref f)) (hk : PySem.W.keepIn X.K (.ref f) = true) (hb : Binds X.K fd ps [])
    (ha : JA X (e :: es) w) (hdb : (x == ("__debug__" : Str)) = false := by decide) (he : starEach (e :: es) X.env = (false, eval e X.env) :: starEach es X.env := by rfl) (hpl : (backTo pos (starEach es X.env)).any (·.1) = false := by rfl) : JM X (.Call (.Name x p) (e :: es) [] pos) (wCallM m sp w) :=
  pe_le (pe_callG (E := E0) F hr hg hm hk hb pass0 ha hdb he hpl) fun pins s σ H Q I ⟨B, G, δ, R, rel, hw, k⟩ => ⟨B, G, δ, _, rel, hw, fun vs H1 G1 os δ1 r1 s1 rel1 ok1 => by
    obtain ⟨G2, δ2, os', ⟨nd, q⟩, s2, rel2, ok2⟩ := lkM_ok rel1 ok1 r1
    rw [List.append_nil]
    refine ⟨_, G2, _, _, call_rel rel2 ok2 nd, q, fun v H' G' c cs r s3 rel3 hB okc => ?_⟩
    have low : Rel X.K (hold B H1 δ2 (slotsOf os')) G' cs (vs.map some) H' := rel3.less fun a => by
      unfold bov
      split
      · rename_i hm; exact .inr (hB a hm)
      · exact .inl rfl
    have rel4 := call_back rel2 ok2 nd s3 low
    have hlen : os'.length = cs.length := by rw [← opds_len ok2, ← low.len, List.length_map]
    have tr : ∀ a ∈ c.fp, ∃ o, H' a = some o := fun a m => cell_tr okc m
    have hB0 : ∀ a ∈ c.fp, B a = none := fun a m => by
      have z := hB a m
      by_cases h : ∃ i c, δ2[i]? = some c ∧ a ∈ c.fp ∧ i ∉ slotsOf os'
      · obtain ⟨i, c', h1, h2, _⟩ := h
        exact (rel2.fr i c' a h1 h2).2
      · rw [hold_out h] at z; exact z
    have hG : ∀ a ∈ c.fp, G' a = none := fun a m => by
      rcases rel3.dj a with z | z
      · exact z
      · unfold bov at z
        rw [if_pos m] at z
        obtain ⟨o, eo⟩ := tr a m
        rw [eo] at z; cases z
    refine k v H' G' c _ r (s1.trans (s2.trans s3)) (rel4.more hG (fun i c' a e m ma => ?_) fun a m => cell_te okc m) hB0 okc
    rcases putBack_at hlen nd e with ⟨h1, h2⟩ | ⟨j, h1, h2⟩
    · have z := hB a ma
      rw [hold_in ⟨i, c', h2, m, h1⟩] at z
      obtain ⟨o, eo⟩ := rel2.tr h2 m
      rw [eo] at z; cases z
    · obtain ⟨_, f2⟩ := rel3.fr j c' a h2 m
      unfold bov at f2
      rw [if_pos ma] at f2
      obtain ⟨o, eo⟩ := tr a ma
      rw [eo] at f2; cases f2⟩
end

def spDeck : DSpM := fun cs R => ∃ a ns, cs = [.scr a ns] ∧ ∀ p b c, R (.dk p b c) [.scr a ns]
/-- script[:63] -/
def wCut (i : Nat) : DE := fun δ R => ∃ a ns, δ[i]? = some (.scr a ns) ∧ R (.d (.list ((ns.take 63).map PyData.int))) δ
omit [Tb] in
@[simp ↓] theorem wCut_ap (i : Nat) (δ : DS) (R : Opd → DS → Prop) : wCut i δ R = (∃ a ns, δ[i]? = some (.scr a ns) ∧ R (.d (.list ((ns.take 63).map PyData.int))) δ) := rfl
theorem cutV_take (xs : List V) (n : Nat) : cutV xs none (some (n : Int)) = xs.take n := by
  unfold cutV
  rw [HT.sIx_none, HT.sIx_nat]
  simp only [List.drop_zero, Nat.sub_zero]
  by_cases h : n ≤ xs.length
  · rw [Nat.min_eq_left h]
  · rw [Nat.min_eq_right (by omega), List.take_of_length_le (by omega), List.take_of_length_le (by omega)]
theorem je_cut {X : Cx} {i : Nat} {x : Str} {px p1 p2 pos : Pos} {k1} (h : PE X (.Name x px) (tVar i)) : JE X (.Subscript (.Name x px) (.Slice none (some (.Constant (.int 63) k1 p1)) none p2) pos) (wCut i) :=
  pe_le (pe_slice sl_list h po_none (po_some pe_int)) fun pins s σ H Q I ⟨B, G, δ, R, rel, ⟨a, ns, hδ, hw⟩, k⟩ => by
    obtain ⟨o, hσ, rfl, hq⟩ := rel.at hδ
    refine ⟨.ref a, hσ, 63, rfl, a, ns.map V.int, rfl, rel.sg.seq hq, fun p np => ?_⟩
    obtain ⟨rel3, s3⟩ := rel.laid (o := .lst (cutV (ns.map V.int) none (some 63))) np
    refine k _ _ _ _ _ hw s3 rel3 (Dn.lst upd_same ?_)
    rw [show (63 : Int) = ((63 : Nat) : Int) from rfl, cutV_take, ← List.map_take]
    exact DnL.ints _
def wDk1 : DTS := wSet 1 (mL (wComp (iSeq (wCut 0)) (gN 2) tT (wFn pAbs (wCons (wVar 2) wNil)) [2]))
def wDk2 : DMs := msCons (mL (wComp (iSeq (wVar 1)) (gN 2) (wB (wOp pGe (wVar 2) (wOp pPow (wC (.int 10)) (wC (.int 18))))) (wVar 2) [2]))
  (msCons (mL (wOpL pAddL (wVar 1) (wOfL (wLst (wCons (wOp pAdd (wC (.int 11228)) (wFn pLen (wCons (wVar 1) wNil))) wNil))))) (msCons (mE (wC (.int 0))) msNil))
theorem comp_abs {δ : DS} {R : List PyData → DS → Prop} {d0 d1 : Cell} (hd : δ = [d0, d1, .em]) (k : ∀ ms : List Int, ms.length ≤ 63 → R (ms.map PyData.int) δ) (ns : List Int) (hn : ns.length ≤ 63) :
    compIt (gN 2) tT (wFn pAbs (wCons (wVar 2) wNil)) [2] (ns.map PyData.int) [] δ R := by
  refine com_inv (u := .mk) (fun xs acc δ' => δ' = δ ∧ ∃ ns ms : List Int, xs = ns.map PyData.int ∧ acc = ms.map PyData.int ∧ ms.length + ns.length ≤ 63) ⟨rfl, ns, [], rfl, rfl, by simpa using hn⟩ ?_ ?_
  · rintro acc δ' ⟨rfl, ns, ms, h1, rfl, h3⟩
    exact k ms (by omega)
  · rintro x xs acc δ' ⟨rfl, ns, ms, h1, rfl, h3⟩ K ih
    cases ns with
    | nil => cases h1
    | cons n ns =>
      simp only [List.map_cons, List.cons.injEq] at h1
      obtain ⟨rfl, rfl⟩ := h1
      subst hd
      simp
      exact ih _ _ ⟨rfl, ns, ms ++ [if n < 0 then -n else n], rfl, by simp, by simp at h3 ⊢; omega⟩
theorem comp_ge {δ : DS} {R : List PyData → DS → Prop} {d0 d1 : Cell} (hd : δ = [d0, d1, .em]) (k : ∀ ms : List Int, (∀ x ∈ ms, 0 ≤ x) → R (ms.map PyData.int) δ) (ns : List Int) :
    compIt (gN 2) (wB (wOp pGe (wVar 2) (wOp pPow (wC (.int 10)) (wC (.int 18))))) (wVar 2) [2] (ns.map PyData.int) [] δ R := by
  refine com_inv (u := .mk) (fun xs acc δ' => δ' = δ ∧ ∃ ns ms : List Int, xs = ns.map PyData.int ∧ acc = ms.map PyData.int ∧ ∀ x ∈ ms, 0 ≤ x) ⟨rfl, ns, [], rfl, rfl, by simp⟩ ?_ ?_
  · rintro acc δ' ⟨rfl, ns, ms, h1, rfl, h3⟩
    exact k ms h3
  · rintro x xs acc δ' ⟨rfl, ns, ms, h1, rfl, h3⟩ K ih
    cases ns with
    | nil => cases h1
    | cons n ns =>
      simp only [List.map_cons, List.cons.injEq] at h1
      obtain ⟨rfl, rfl⟩ := h1
      subst hd
      simp [CPow]
      split
      · exact ih _ _ ⟨rfl, ns, ms ++ [n], rfl, by simp, fun x hx => by
          rcases List.mem_append.mp hx with q | q
          · exact h3 x q
          · rw [List.mem_singleton.mp q]; omega⟩
      · exact ih _ _ ⟨rfl, ns, ms, rfl, rfl, h3⟩
theorem ok_deck {P : Program} {w : World} {K : PySem.W.Frag} {mg : Str → Option Value} {base : Heap} {x qual : Str} {st : Stmt} {f : Addr} {fd : FuncData} {N ps : List Str} {k : Nat} {st1 : Stmt} {es : List Expr} {p1 p2 : Pos} (F : Fun K x qual st f fd) (S : FnScope N ps (defScope st)) (hN : N.length = 3) (hp : ps.length = 1)
    (hb : defBody st = [st1, .Return (some (.List es p1)) p2])
    (h1 : ∀ (cdv : Value) (A : Around) (outer : List Env) (s : Shared) (H : Hp) (E : XK), RoomG k (A.deeper (envOfC qual (defScope st) s.heap.objs.size f cdv)) → JS (cxOf CX0 P w K mg base N qual (defScope st) f cdv A outer s H E).nox st1 wDk1)
    (h2 : ∀ (cdv : Value) (A : Around) (outer : List Env) (s : Shared) (H : Hp) (E : XK), RoomG k (A.deeper (envOfC qual (defScope st) s.heap.objs.size f cdv)) → JMs (cxOf CX0 P w K mg base N qual (defScope st) f cdv A outer s H E).nox es wDk2) : FnG P w K mg base CX0 (k + 1) f fd ps (liftM K spDeck) := by
  obtain ⟨oc, od, kV, doc, pm, an, cdv, ct, osl, rfl, lk', hcd⟩ := F.ex
  refine fnG_of lk' hcd S (fun vs H Q E ⟨B, G, cs, R, rel, ⟨a, ns, e, _⟩, _⟩ => by have := rel.len; subst e; simp at this; omega) fun A outer s H vs Q E hr ⟨B, G, cs, R, rel, ⟨a, ns, e, hR⟩, kk⟩ => ?_
  subst e
  rw [hb]
  refine ⟨_, (pss_cons (h1 cdv A outer s H E hr) (pss_one (ps_ret (pe_lst (h2 cdv A outer s H E hr))))).nox, ?_⟩
  have e0 : start0 N.length [Cell.scr a ns] = [.scr a ns, .em, .em] := by rw [hN]; rfl
  refine ⟨B, G, [.scr a ns, .em, .em], { nx := fun δ => ∃ q xs, δ = [.scr a ns, .ol q (xs.map PyData.int), .em] ∧ (xs : List Int).length ≤ 63, rt := fun _ _ => False }, e0 ▸ rel_start rel, ?_, ?_⟩
  · unfold wDk1
    simp
    refine ⟨a, ns, ⟨rfl, rfl⟩, ?_⟩
    rw [← List.map_take]
    exact comp_abs rfl (fun ms hm q => ⟨q, ms, by simp [hm]⟩) _ (by rw [List.length_take]; omega)
  · refine ⟨?_, fun _ _ _ _ _ _ h => h.elim, fun _ _ _ _ h => h.elim, fun _ _ _ _ h => h.elim⟩
    rintro σ1 H1 G1 δ1 ⟨q, xs, rfl, hx⟩ s1 rel1
    refine ⟨B, G1, _, fun cs δ => ∃ (q1 q2 : Addr) (ms ys : List Int) (d1 : Cell), cs = [.ol q1 (ms.map PyData.int), .ol q2 (ys.map PyData.int), .d (.int 0)] ∧ δ = [.scr a ns, d1, .em] ∧ (∀ x ∈ ms, (0 : Int) ≤ x) ∧ ys ≠ [], rel1, ?_, ?_⟩
    · unfold wDk2
      simp
      refine comp_ge rfl (fun ms hm q1 => ?_) _
      simp
      refine ⟨by omega, fun q2 => ⟨q1, q2, ms, xs ++ [11228 + (xs.length : Int)], ⟨⟨rfl, rfl⟩, rfl, by simp⟩, hm, by simp⟩⟩
    · rintro vs2 H2 G2 cs δ2 ⟨b, c, ms, ys, d1, rfl, rfl, hm, hy⟩ s2 rel2 hB2 ok2
      cases ok2 with
      | cons o1 n1 t1 =>
        cases t1 with
        | cons o2 n2 t2 =>
          cases t2 with
          | cons o3 n3 t3 =>
            cases t3
            obtain ⟨e1, w1, hb, t1⟩ := o1
            obtain ⟨e2, w2, hc, t2⟩ := o2
            obtain ⟨v3, e3, t3⟩ := o3
            cases e1
            cases e2
            cases e3
            obtain rfl := t1.toInts
            obtain rfl := t2.toInts
            obtain rfl := dn_int t3
            refine ⟨by show 3 ≤ sizeLine; rw [sizeLine_eq]; omega, fun p np => ?_⟩
            have bc : b ≠ c := fun e => n1 b (by simp [Cell.fp]) (by simp [fps, Cell.fp, e])
            have pb : p ≠ b := fun e => by rw [e, hb] at np; cases np
            have pc : p ≠ c := fun e => by rw [e, hc] at np; cases np
            have rel3 := rel_end rel (rel2.growB (o := .lst [.ref b, .ref c, .int 0]) np |>.less (B0 := B) fun a => ?_) (s1.trans s2) (show sameIo [Cell.scr a ns] _ from trivial)
            · have eb : (fps [Cell.ol b (ms.map PyData.int), Cell.ol c (ys.map PyData.int), Cell.d (.int 0)]) = [b, c] := rfl
              rw [eb] at rel2 hB2
              have hB : ∀ a ∈ [p, b, c], B a = none := fun a m => by
                rcases List.mem_cons.mp m with e | m
                · rw [e]
                  have z := rel2.freeB np
                  unfold bov at z
                  rw [if_neg (by simp [pb, pc])] at z; exact z
                · exact hB2 a m
              refine kk _ _ G2 (.dk p b c) _ (hR p b c) (s1.trans s2) (rel3.more (fun a m => ?_) ?_ fun a m => cell_te (K := K) (G := G2) (c := .dk p b c) (o := some (.ref p)) ⟨rfl, pb, pc, bc, 0, ms, ys, upd_same, by rw [upd_ne pb.symm]; exact hb, by rw [upd_ne pc.symm]; exact hc, hy, hm⟩ m) hB ⟨rfl, pb, pc, bc, 0, ms, ys, upd_same, by rw [upd_ne pb.symm]; exact hb, by rw [upd_ne pc.symm]; exact hc, hy, hm⟩
              · rcases List.mem_cons.mp m with e | m
                · rw [e]; exact rel2.freeG np
                · rcases rel2.dj a with z | z
                  · exact z
                  · unfold bov at z
                    rw [if_pos m] at z
                    have m' : a = b ∨ a = c := by simpa using m
                    rcases m' with rfl | rfl
                    · rw [hb] at z; cases z
                    · rw [hc] at z; cases z
              · intro i c' a' e m
                have : c' = .scr a ns := by
                  cases i with
                  | zero => simp [outC] at e; exact e.symm
                  | succ i => simp [outC] at e
                rw [this] at m; cases m
            · by_cases h : a = p
              · refine .inr ?_
                rw [h]
                have z := rel2.freeB np
                unfold bov at z
                split at z
                · rename_i hm2
                  rw [z] at np
                  have : H2 p = none := z
                  rcases (show p = b ∨ p = c by simpa [fps, Cell.fp] using hm2) with e | e
                  · exact absurd e pb
                  · exact absurd e pc
                · exact z
              · rw [upd_ne h]
                unfold bov
                split
                · rename_i hm2
                  exact .inr (hB2 a hm2)
                · exact .inl rfl
end DL
set_option Elab.async false
set_option linter.all false
set_option maxRecDepth 100000
set_option maxHeartbeats 4000000
namespace DL
open PySem PySem.Spec PyProof.Rows L2
variable [Tb]

section
variable {K : PySem.W.Frag} {B G H : Hp} {δ : DS} {σ : L2.St}
/-- an object of a slot's thing is changed -/
theorem Rel.put {i : Nat} {c c' : Cell} {p : Addr} {o : HO} {ov : Option V} (R : Rel K B G δ σ H) (h : δ[i]? = some c) (hσ : σ[i]? = some ov) (hp : p ∈ c.fp) (hf : c'.fp = c.fp) (ok : CellOk K G (upd H p o) c' ov) : Rel K B G (δ.set i c') σ (upd H p o) := by
  obtain ⟨ga, ba⟩ := R.fr i _ p h hp
  have hi : i < δ.length := (List.getElem?_eq_some_iff.mp h).1
  have get : ∀ {j : Nat} {x : Cell}, (δ.set i c')[j]? = some x → (j = i ∧ x = c') ∨ (j ≠ i ∧ δ[j]? = some x) := fun {j x} e => by
    by_cases hj : j = i
    · subst hj
      rw [List.getElem?_set_self hi] at e; cases e; exact .inl ⟨rfl, rfl⟩
    · rw [List.getElem?_set_ne (Ne.symm hj)] at e; exact .inr ⟨hj, e⟩
  refine ⟨by simp [R.len], fun b x q => ?_, fun b x q => ?_, R.dj, fun j x w e1 e2 => ?_, fun j k x y z e1 e2 m1 m2 => ?_, fun j x z e1 m => ?_, ⟨tabs_upd R.tt.t (cell_te (R.ok i c _ h hσ) hp), R.tt.n⟩⟩
  · rw [upd_ne (fun z => by rw [z, ga] at q; cases q)]; exact R.sg _ _ q
  · rw [upd_ne (fun z => by rw [z, ba] at q; cases q)]; exact R.sb _ _ q
  · rcases get e1 with ⟨rfl, rfl⟩ | ⟨hj, e1⟩
    · rw [hσ] at e2; cases e2; exact ok
    · refine (R.ok j x w e1 e2).stay (Same.refl _) fun b hb => upd_ne fun q => ?_
      rw [q] at hb
      exact hj (R.ap j i x _ p e1 h hb hp)
  · rcases get e1 with h1 | h1
    · obtain ⟨h1, e1'⟩ := h1
      rw [e1'] at m1
      rcases get e2 with ⟨h2, e3⟩ | ⟨h2, e3⟩
      · rw [h1, h2]
      · exact h1.trans (R.ap i k _ y z h e3 (by rw [← hf]; exact m1) m2)
    · rcases get e2 with ⟨h2, e3⟩ | ⟨h2, e3⟩
      · rw [e3] at m2
        exact (R.ap j i x _ z h1.2 h m1 (by rw [← hf]; exact m2)).trans h2.symm
      · exact R.ap j k x y z h1.2 e3 m1 m2
  · rcases get e1 with ⟨_, rfl⟩ | ⟨hj, e1⟩
    · exact R.fr i _ z h (by rw [← hf]; exact m)
    · exact R.fr j x z e1 m
/-- the deck is looked into, or closed -/
theorem Rel.swap {i : Nat} {c c' : Cell} {ov : Option V} (R : Rel K B G δ σ H) (h : δ[i]? = some c) (hσ : σ[i]? = some ov) (hf : c'.fp = c.fp) (ok : CellOk K G H c' ov) : Rel K B G (δ.set i c') σ H :=
  R.recell hσ ok fun a m => ⟨R.fr i c a h (by rw [← hf]; exact m), fun j x hj e m2 => hj (R.ap j i x c a e h m2 (by rw [← hf]; exact m))⟩
end

/-- deck[2] -/
def wK2 (i : Nat) : DE := fun δ R => ∃ a b c xs n ys, δ[i]? = some (.dx a b c xs n ys) ∧ R (.d (.int n)) δ
/-- deck[0][0] -/
def wK00 (i : Nat) : DE := fun δ R => ∃ a b c xs n ys x, δ[i]? = some (.dx a b c xs n ys) ∧ xs.head? = some x ∧ R (.d (.int x)) δ
/-- deck[0] != [] -/
def wKne (i : Nat) : DT := fun δ R => ∃ a b c xs n ys, δ[i]? = some (.dx a b c xs n ys) ∧ R (!xs.isEmpty) δ
/-- deck[1][e] -/
def wK1 (i : Nat) (w : DE) : DE := fun δ R => ∃ a b c xs n ys, δ[i]? = some (.dx a b c xs n ys) ∧ w δ fun o δ1 => use o δ1 fun d => ∃ j z, d = .int j ∧ δ1[i]? = some (.dx a b c xs n ys) ∧ atI ys j = some z ∧ R (.d (.int z)) δ1
/-- len(deck[1]) -/
def wKlen (i : Nat) : DE := fun δ R => ∃ a b c xs n ys, δ[i]? = some (.dx a b c xs n ys) ∧ R (.d (.int (ys.length : Nat))) δ
/-- deck[0][0] = e -/
def wPut00 (i : Nat) (w : DE) : DTS := fun E δ => w δ fun o δ1 => use o δ1 fun d => ∃ v a b c x xs n ys, d = .int v ∧ δ1[i]? = some (.dx a b c (x :: xs) n ys) ∧ E.nx (δ1.set i (.dx a b c (v :: xs) n ys))
/-- deck[0].pop(0) -/
def wPop0 (i : Nat) : DTS := fun E δ => ∃ a b c x xs n ys, δ[i]? = some (.dx a b c (x :: xs) n ys) ∧ E.nx (δ.set i (.dx a b c xs n ys))
/-- deck[2] = e -/
def wPut2 (i : Nat) (w : DE) : DTS := fun E δ => w δ fun o δ1 => use o δ1 fun d => ∃ v a b c xs n ys, d = .int v ∧ δ1[i]? = some (.dx a b c xs n ys) ∧ E.nx (δ1.set i (.dx a b c xs v ys))
def asX (c : Option Cell) (k : Addr → Addr → Addr → List Int → Int → List Int → Prop) : Prop := match c with
  | some (.dx a b c xs n ys) => k a b c xs n ys
  | _ => False
omit [Tb] in
@[simp ↓] theorem asX_x (a b c : Addr) (xs : List Int) (n : Int) (ys : List Int) (k : Addr → Addr → Addr → List Int → Int → List Int → Prop) : asX (some (.dx a b c xs n ys)) k = k a b c xs n ys := rfl
theorem ex_x (c : Option Cell) (k : Addr → Addr → Addr → List Int → Int → List Int → Prop) : (∃ p q r xs n ys, c = some (.dx p q r xs n ys) ∧ k p q r xs n ys) = asX c k := by
  cases c with
  | none => simp [asX]
  | some c =>
    cases c with
    | dx p q r xs n ys =>
      refine propext ⟨fun ⟨_, _, _, _, _, _, e, h⟩ => ?_, fun h => ⟨_, _, _, _, _, _, rfl, h⟩⟩
      cases e; exact h
    | _ => simp [asX]
def head1 (xs : List Int) (k : Int → List Int → Prop) : Prop := match xs with
  | x :: r => k x r
  | [] => False
omit [Tb] in
@[simp] theorem head1_c (x : Int) (xs : List Int) (k : Int → List Int → Prop) : head1 (x :: xs) k = k x xs := rfl
omit [Tb] in
@[simp ↓] theorem wK2_ap (i : Nat) (δ : DS) (R : Opd → DS → Prop) : wK2 i δ R = asX δ[i]? fun a b c xs n ys => R (.d (.int n)) δ := by
  rw [← ex_x]; rfl
omit [Tb] in
@[simp ↓] theorem wK00_ap (i : Nat) (δ : DS) (R : Opd → DS → Prop) : wK00 i δ R = asX δ[i]? fun a b c xs n ys => head1 xs fun x _ => R (.d (.int x)) δ := by
  rw [← ex_x]
  refine propext ⟨fun ⟨a, b, c, xs, n, ys, x, h, h2, q⟩ => ⟨a, b, c, xs, n, ys, h, ?_⟩, fun ⟨a, b, c, xs, n, ys, h, q⟩ => ?_⟩
  · cases xs with
    | nil => cases h2
    | cons y r => cases h2; exact q
  · cases xs with
    | nil => exact q.elim
    | cons y r => exact ⟨a, b, c, _, n, ys, y, h, rfl, q⟩
omit [Tb] in
@[simp ↓] theorem wKne_ap (i : Nat) (δ : DS) (R : Bool → DS → Prop) : wKne i δ R = asX δ[i]? fun a b c xs n ys => R (!xs.isEmpty) δ := by
  rw [← ex_x]; rfl
omit [Tb] in
@[simp ↓] theorem wK1_ap (i : Nat) (w : DE) (δ : DS) (R : Opd → DS → Prop) : wK1 i w δ R = asX δ[i]? fun a b c xs n ys => w δ fun o δ1 => use o δ1 fun d => asI d (fun j => δ1[i]? = some (.dx a b c xs n ys) ∧ onS (atI ys j) (fun z => R (.d (.int z)) δ1) .mk) .mk := by
  rw [← ex_x]; simp only [← ex_int, ← ex_some, ← exists_and_left]; rfl
omit [Tb] in
@[simp ↓] theorem wKlen_ap (i : Nat) (δ : DS) (R : Opd → DS → Prop) : wKlen i δ R = asX δ[i]? fun a b c xs n ys => R (.d (.int (ys.length : Nat))) δ := by
  rw [← ex_x]; rfl
omit [Tb] in
@[simp ↓] theorem wPut00_ap (i : Nat) (w : DE) (E : DEnds) (δ : DS) : wPut00 i w E δ = (w δ fun o δ1 => use o δ1 fun d => asI d (fun v => asX δ1[i]? fun a b c xs n ys => head1 xs fun _ r => E.nx (δ1.set i (.dx a b c (v :: r) n ys))) .mk) := by
  unfold wPut00
  simp only [← ex_x, ← ex_int]
  congr 1; funext o δ1; congr 1; funext d
  refine propext ⟨fun ⟨v, a, b, c, x, xs, n, ys, h0, h, q⟩ => ⟨v, h0, a, b, c, _, n, ys, h, q⟩, fun ⟨v, h0, a, b, c, xs, n, ys, h, q⟩ => ?_⟩
  cases xs with
  | nil => exact q.elim
  | cons y r => exact ⟨v, a, b, c, y, r, n, ys, h0, h, q⟩
omit [Tb] in
@[simp ↓] theorem wPop0_ap (i : Nat) (E : DEnds) (δ : DS) : wPop0 i E δ = asX δ[i]? fun a b c xs n ys => head1 xs fun _ r => E.nx (δ.set i (.dx a b c r n ys)) := by
  rw [← ex_x]
  refine propext ⟨fun ⟨a, b, c, x, xs, n, ys, h, q⟩ => ⟨a, b, c, _, n, ys, h, q⟩, fun ⟨a, b, c, xs, n, ys, h, q⟩ => ?_⟩
  cases xs with
  | nil => exact q.elim
  | cons y r => exact ⟨a, b, c, y, r, n, ys, h, q⟩
omit [Tb] in
@[simp ↓] theorem wPut2_ap (i : Nat) (w : DE) (E : DEnds) (δ : DS) : wPut2 i w E δ = (w δ fun o δ1 => use o δ1 fun d => asI d (fun v => asX δ1[i]? fun a b c xs n ys => E.nx (δ1.set i (.dx a b c xs v ys))) .mk) := by
  unfold wPut2
  simp only [← ex_x, ← ex_int]
  congr 1; funext o δ1; congr 1; funext d
  exact propext ⟨fun ⟨v, a, b, c, xs, n, ys, h0, h, q⟩ => ⟨v, h0, a, b, c, xs, n, ys, h, q⟩, fun ⟨v, h0, a, b, c, xs, n, ys, h, q⟩ => ⟨v, a, b, c, xs, n, ys, h0, h, q⟩⟩
section
variable {X : Cx} {i : Nat} {x : Str} {px pos p1 p2 p3 p4 p5 : Pos} {k1 k2 : Nat}
theorem atI_map {α β : Type} (f : α → β) (xs : List α) (j : Int) : atI (xs.map f) j = (atI xs j).map f := by
  unfold atI
  rw [List.length_map]
  cases ixN xs.length j with
  | none => rfl
  | some k => simp
theorem je_k2 (h : PE X (.Name x px) (tVar i)) : JE X (.Subscript (.Name x px) (.Constant (.int 2) k1 p1) pos) (wK2 i) :=
  pe_le (pe_ix ix_list h pe_int (fun _ _ => rfl)) fun pins s σ H Q I ⟨B, G, δ, R, rel, ⟨a, b, c, xs, n, ys, hδ, hw⟩, k⟩ => by
    obtain ⟨o, hσ, rfl, h1, h2, h3, e1, e2, e3⟩ := rel.at hδ
    exact ⟨.ref a, hσ, a, _, 2, .int n, rfl, rfl, SqL.of e1, rfl, k _ H G _ δ hw (Same.refl _) rel (Dn.int _)⟩
theorem je_k00 (h : PE X (.Name x px) (tVar i)) : JE X (.Subscript (.Subscript (.Name x px) (.Constant (.int 0) k1 p1) p2) (.Constant (.int 0) k2 p3) pos) (wK00 i) :=
  pe_le (pe_ix ix_list (pe_ix ix_list h pe_int (fun _ _ => rfl)) pe_int (fun _ _ => rfl)) fun pins s σ H Q I ⟨B, G, δ, R, rel, ⟨a, b, c, xs, n, ys, x, hδ, hx, hw⟩, k⟩ => by
    obtain ⟨o, hσ, rfl, h1, h2, h3, e1, e2, e3⟩ := rel.at hδ
    cases xs with
    | nil => cases hx
    | cons y xs =>
      cases hx
      exact ⟨.ref a, hσ, a, _, 0, .ref b, rfl, rfl, SqL.of e1, rfl, b, _, 0, .int x, rfl, rfl, SqL.of e2, by simp [atI, ixN], k _ H G _ δ hw (Same.refl _) rel (Dn.int _)⟩
theorem je_k1 {e : Expr} {w : DE} (h : PE X (.Name x px) (tVar i)) (he : JE X e w) (hs : PlainIx e) : JE X (.Subscript (.Subscript (.Name x px) (.Constant (.int 1) k1 p1) p2) e pos) (wK1 i w) :=
  pe_le (pe_ix ix_list (pe_ix ix_list h pe_int (fun _ _ => rfl)) he hs) fun pins s σ H Q I ⟨B, G, δ, R, rel, ⟨a, b, c, xs, n, ys, hδ, hw⟩, k⟩ => by
    obtain ⟨o, hσ, rfl, h1, h2, h3, e1, e2, e3⟩ := rel.at hδ
    refine ⟨.ref a, hσ, a, _, 1, .ref c, rfl, rfl, SqL.of e1, rfl, B, G, δ, _, rel, hw, fun v H1 G1 o δ1 r1 s1 rel1 ok1 => ?_⟩
    obtain ⟨d, ⟨j, z, rfl, hδ1, hz, q⟩, bd⟩ := use_ok rel1 ok1 r1
    obtain ⟨o', hσ', e', h1', h2', h3', e1', e2', e3'⟩ := rel1.at hδ1
    exact ⟨c, _, j, .int z, rfl, bor_int bd, SqL.of e3', by rw [atI_map, hz]; rfl, k _ H1 G1 _ δ1 q s1 rel1 (Dn.int _)⟩
theorem je_klen {xl : Str} {pl : Pos} (hg : Gl X xl) (hm : X.mg xl = none) (hv : bootBuiltins xl = some (.builtin "len")) (h : PE X (.Name x px) (tVar i)) (hn : xl ≠ "__name__" := by decide) (hdb : (xl == ("__debug__" : Str)) = false := by decide)
    (he : starEach [.Subscript (.Name x px) (.Constant (.int 1) k1 p1) p2] X.env = (false, eval (.Subscript (.Name x px) (.Constant (.int 1) k1 p1) p2) X.env) :: starEach [] X.env := by rfl) :
    JE X (.Call (.Name xl pl) [.Subscript (.Name x px) (.Constant (.int 1) k1 p1) p2] [] pos) (wKlen i) :=
  pe_le (pe_callB call_len hg hm hv (pa_cons (pe_ix ix_list h pe_int (fun _ _ => rfl)) pa_nil he) hn hdb he rfl) fun pins s σ H Q I ⟨B, G, δ, R, rel, ⟨a, b, c, xs, n, ys, hδ, hw⟩, k⟩ => by
    obtain ⟨o, hσ, rfl, h1, h2, h3, e1, e2, e3⟩ := rel.at hδ
    exact ⟨.ref a, hσ, a, _, 1, .ref c, rfl, rfl, SqL.of e1, rfl, _, _, rfl, .inl ⟨_, SqL.of e3, by simp⟩, k _ H G _ δ hw (Same.refl _) rel (Dn.int _)⟩
theorem dp_ints {K : PySem.W.Frag} {H : Hp} {a : Addr} {xs : List Int} (h : H a = some (.lst (xs.map V.int))) : Dp K H (.ref a) (.list (xs.map PyData.int)) :=
  .lst (SqL.of h) (by
    induction xs with
    | nil => exact .nil
    | cons x xs ih => exact .cons (.int _) (by
        clear h
        clear ih
        induction xs with
        | nil => exact .nil
        | cons x xs ih => exact .cons (.int _) ih))
theorem canLay_ints : ∀ xs : List Int, PyData.canLayAll0 (xs.map PyData.int) = true
  | [] => by simp [PyData.canLayAll0]
  | x :: xs => by simp [PyData.canLayAll0, PyData.canLay0, canLay_ints xs]
theorem depth_ints : ∀ xs : List Int, PyData.depthAll (xs.map PyData.int) = 0
  | [] => by simp [PyData.depthAll]
  | x :: xs => by simp [PyData.depthAll, PyData.depth, depth_ints xs]
theorem shaped_ints (xs : List Int) : SeqAt.shaped (.list (xs.map PyData.int)) = true := by
  simp [SeqAt.shaped, PyData.canLay0, PyData.depth, canLay_ints, depth_ints]
theorem shaped_intsT (xs : List Int) : SeqAt.shaped (.tuple (xs.map PyData.int)) = true := by
  simp [SeqAt.shaped, PyData.canLay0, PyData.depth, canLay_ints, depth_ints]
theorem eqv_nil (xs : List Int) : PyData.eqv (.list (xs.map PyData.int)) (.list []) = xs.isEmpty := by
  cases xs <;> simp [PyData.eqv, PyData.eqvAll]
theorem jt_kne (hu : X.A.units + 64 < cLine) (h : PE X (.Name x px) (tVar i)) (hm : behindInMarks .NotEq (.List [] p3) = false := by rfl) : JT X (.Compare (.Subscript (.Name x px) (.Constant (.int 0) k1 p1) p2) [.NotEq] [.List [] p3] pos) (wKne i) :=
  pt_le (pt_cmpR (op_neD hu) (pe_ix ix_list h pe_int (fun _ _ => rfl)) (pe_lst pa_nil) hm) fun pins s σ H Q I ⟨B, G, δ, R, rel, ⟨a, b, c, xs, n, ys, hδ, hw⟩, k⟩ => by
    obtain ⟨o, hσ, rfl, h1, h2, h3, e1, e2, e3⟩ := rel.at hδ
    refine ⟨.ref a, hσ, a, _, 0, .ref b, rfl, rfl, SqL.of e1, rfl, Nat.zero_le _, fun p np => ?_⟩
    have hb : (upd H p (.lst [])) b = some (.lst (xs.map V.int)) := by rw [upd_ne (ne_of_none e2 np)]; exact e2
    refine ⟨_, .list [], dp_ints hb, .lst (SqL.of upd_same) .nil, shaped_ints xs, by decide, _, rfl, ?_⟩
    rw [eqv_nil]
    exact k _ _ G δ hw (Same.refl _) (rel.grow np)
theorem js_put00 {e : Expr} {w : DE} {pt : Pos} (h : PE X (.Name x px) (tVar i)) (he : JE X e w) (hs : swapsWithSole [.Subscript (.Subscript (.Name x px) (.Constant (.int 0) k1 p1) p2) (.Constant (.int 0) k2 p3) pt] e pos.line X.env = pure false := by rfl) (hw : swappedStores [.Subscript (.Subscript (.Name x px) (.Constant (.int 0) k1 p1) p2) (.Constant (.int 0) k2 p3) pt] e X.env = pure none := by rfl) :
    JS X (.Assign [.Subscript (.Subscript (.Name x px) (.Constant (.int 0) k1 p1) p2) (.Constant (.int 0) k2 p3) pt] e pos) (wPut00 i w) :=
  ps_le (ps_asg he (pg_sub (pe_ix ix_list h pe_int (fun _ _ => rfl)) pe_int set_list) hs hw) fun pins s σ H D I ⟨B, G, δ, E, rel, hw, k⟩ => ⟨B, G, δ, _, rel, hw, fun v H1 G1 o δ1 r1 s1 rel1 ok1 => by
    obtain ⟨d, ⟨j, a, b, c, x, xs, n, ys, rfl, hδ1, q⟩, bd⟩ := use_ok rel1 ok1 r1
    obtain ⟨o', hσ, rfl, h1, h2, h3, e1, e2, e3⟩ := rel1.at hδ1
    obtain rfl := bor_int bd
    refine ⟨.ref a, hσ, a, _, 0, .ref b, rfl, rfl, SqL.of e1, rfl, b, _, 0, 0, rfl, rfl, e2, by simp [ixN], ?_⟩
    exact k.nx _ _ G1 _ q s1 (rel1.put hδ1 hσ (by simp [Cell.fp]) rfl ⟨rfl, h1, h2, h3, by rw [upd_ne h1]; exact e1, by rw [upd_same]; rfl, by rw [upd_ne h3.symm]; exact e3⟩)⟩
theorem js_put2 {e : Expr} {w : DE} {pt : Pos} (h : PE X (.Name x px) (tVar i)) (he : JE X e w) (hs : swapsWithSole [.Subscript (.Name x px) (.Constant (.int 2) k1 p1) pt] e pos.line X.env = pure false := by rfl) (hw : swappedStores [.Subscript (.Name x px) (.Constant (.int 2) k1 p1) pt] e X.env = pure none := by rfl) :
    JS X (.Assign [.Subscript (.Name x px) (.Constant (.int 2) k1 p1) pt] e pos) (wPut2 i w) :=
  ps_le (ps_asg he (pg_sub h pe_int set_list) hs hw) fun pins s σ H D I ⟨B, G, δ, E, rel, hw, k⟩ => ⟨B, G, δ, _, rel, hw, fun v H1 G1 o δ1 r1 s1 rel1 ok1 => by
    obtain ⟨d, ⟨j, a, b, c, xs, n, ys, rfl, hδ1, q⟩, bd⟩ := use_ok rel1 ok1 r1
    obtain ⟨o', hσ, rfl, h1, h2, h3, e1, e2, e3⟩ := rel1.at hδ1
    obtain rfl := bor_int bd
    refine ⟨.ref a, hσ, a, _, 2, 2, rfl, rfl, e1, by simp [ixN], ?_⟩
    exact k.nx _ _ G1 _ q s1 (rel1.put hδ1 hσ (by simp [Cell.fp]) rfl ⟨rfl, h1, h2, h3, by rw [upd_same]; rfl, by rw [upd_ne h1.symm]; exact e2, by rw [upd_ne h2.symm]; exact e3⟩)⟩
theorem js_pop0 {apos cpos : Pos} (h : PE X (.Name x px) (tVar i)) (hs : swapsWith (.Call (.Attribute (.Subscript (.Name x px) (.Constant (.int 0) k1 p1) p2) "pop" apos) [.Constant (.int 0) k2 p3] [] cpos) none pos.line X.env = pure false := by rfl)
    (hb : PE X (.Call (.Attribute (.Subscript (.Name x px) (.Constant (.int 0) k1 p1) p2) "pop" apos) [.Constant (.int 0) k2 p3] [] cpos) (tBM X.K "list" rPopAt (tOp (rIxL X.K) (tVar i) (tC (.int 0))) (tCons (tC (.int 0)) tNil))) :
    JS X (.Expr (.Call (.Attribute (.Subscript (.Name x px) (.Constant (.int 0) k1 p1) p2) "pop" apos) [.Constant (.int 0) k2 p3] [] cpos) pos) (wPop0 i) :=
  ps_le (ps_expr hb hs) fun pins s σ H D I ⟨B, G, δ, E, rel, ⟨a, b, c, x, xs, n, ys, hδ, hw⟩, k⟩ => by
    obtain ⟨o', hσ, rfl, h1, h2, h3, e1, e2, e3⟩ := rel.at hδ
    refine ⟨.ref a, hσ, a, _, 0, .ref b, rfl, rfl, SqL.of e1, rfl, .inl ⟨rfl, _, SqL.of e2⟩, b, _, 0, 0, .int x, rfl, rfl, e2, by decide, by decide, by simp [seqIndex?], rfl, ?_⟩
    exact k.nx _ _ G _ hw (Same.refl _) (rel.put hδ hσ (by simp [Cell.fp]) rfl ⟨rfl, h1, h2, h3, by rw [upd_ne h1]; exact e1, by rw [upd_same]; rfl, by rw [upd_ne h3.symm]; exact e3⟩)
end
end DL
set_option Elab.async false
set_option linter.all false
set_option maxRecDepth 100000
set_option maxHeartbeats 4000000
namespace DL
open PySem PySem.Spec PyProof.Rows L2
variable [Tb]

theorem ixN_nn {n : Nat} {j : Int} (h0 : 0 ≤ j) (h1 : j < n) : ixN n j = some j.toNat := by
  unfold ixN
  simp [h0, h1]
theorem atI_nn {α : Type} {xs : List α} {j : Int} (h0 : 0 ≤ j) (h1 : j < xs.length) : atI xs j = xs[j.toNat]? := by
  unfold atI; rw [ixN_nn h0 h1]; rfl
theorem atI_ex {α : Type} {xs : List α} {j : Int} (h0 : 0 ≤ j) (h1 : j < xs.length) : ∃ z, z ∈ xs ∧ atI xs j = some z := by
  rw [atI_nn h0 h1]
  have h : j.toNat < xs.length := by omega
  exact ⟨xs[j.toNat], List.getElem_mem h, List.getElem?_eq_getElem h⟩
omit [Tb] in
@[simp] theorem atI_ofNat {α : Type} (xs : List α) (j : Nat) : atI xs (j : Int) = xs[j]? := by
  by_cases h : j < xs.length
  · rw [atI_nn (by omega) (by omega)]; simp
  · unfold atI
    have : ixN xs.length (j : Int) = none := by unfold ixN; simp; omega
    rw [this, List.getElem?_eq_none (by omega)]; rfl

omit [Tb] in
@[simp] theorem atI_0 {α : Type} (xs : List α) : atI xs 0 = xs[0]? := by
  have := atI_ofNat xs 0; simpa using this
omit [Tb] in
@[simp] theorem atI_1 {α : Type} (xs : List α) : atI xs 1 = xs[1]? := by
  have := atI_ofNat xs 1; simpa using this
omit [Tb] in
@[simp] theorem atI_lit {α : Type} (xs : List α) (n : Nat) : atI xs (no_index (OfNat.ofNat n : Int)) = xs[n]? := atI_ofNat xs n
omit [Tb] in
@[simp] theorem atI_m1 {α : Type} (xs : List α) : atI xs (-1) = xs.getLast? := by
  rw [List.getLast?_eq_getElem?]
  cases xs with
  | nil => rfl
  | cons x xs =>
    unfold atI ixN
    have h1 : ¬ (0 : Int) ≤ -1 := by omega
    have h2 : -(((x :: xs).length : Nat) : Int) ≤ -1 := by simp; omega
    rw [if_neg h1, if_pos h2]
    have : (-1 + (((x :: xs).length : Nat) : Int)).toNat = (x :: xs).length - 1 := by simp; omega
    rw [this]; rfl
/-- a number that isn't negative and below -/
def spDraw : DSp := fun cs R => ∃ a b c m, cs = [.dk a b c, .d (.int m)] ∧ 0 < m ∧ m.natAbs.log2 < 9000 ∧ ∀ r, 0 ≤ r → r < m → R (.int r) [.dk a b c, .d (.int m)]
def wDrawA : DTS := wSeq (wSet 2 (mE (wK00 0))) (wSeq (wPut00 0 (wOp pDiv (wVar 2) (wVar 1))) (wSeq (wIf (wB (wOp pEq (wK00 0) (wC (.int 0)))) (wPop0 0) wNext) (wRet (wOp pMod (wFn pInt (wCons (wVar 2) wNil)) (wVar 1)))))
def wDrawB : DTS := wSeq (wPut2 0 (wOp pAdd (wK2 0) (wC (.int 1)))) (wSeq (wSet 3 (mE (wK1 0 (wOp pMod (wFn pInt (wCons (wK2 0) wNil)) (wKlen 0)))))
  (wSeq (wSet 4 (mE (wOp pMod (wFn pInt (wCons (wOp pAdd (wOp pMod (wFn pInt (wCons (wVar 3) wNil)) (wC (.int 4294966477))) (wOp pMul (wC (.int 1640531513)) (wK2 0))) wNil)) (wC (.int 4294966477)))))
  (wSeq (wSet 4 (mE (wOp pMod (wFn pInt (wCons (wOp pAdd (wOp pMul (wVar 4) (wVar 4)) (wOp pMul (wC (.int 86028121)) (wK2 0))) wNil)) (wC (.int 4294966427)))))
  (wRet (wOp pMod (wOp pDiv (wOp pMod (wFn pInt (wCons (wOp pMul (wVar 4) (wVar 4)) wNil)) (wC (.int 4294966373))) (wC (.int 1024))) (wVar 1))))))
def wDraw : DTS := wSeq (wIf (wKne 0) wDrawA wNext) wDrawB
theorem cm_small {i j : Int} (h0 : 0 ≤ i) (h1 : i < 4294967296) : CMul i j ∨ CMulW i j := .inl (.inl ⟨by omega, by omega⟩)
theorem rd_draw {a b c : Addr} {m : Int} {xs ys : List Int} {n : Int} {E : DEnds} (hm : 0 < m) (hl : m.natAbs.log2 < 9000) (hy : ys ≠ []) (hx : ∀ x ∈ xs, 0 ≤ x)
    (k : ∀ r xs n d2 d3 d4, 0 ≤ r → r < m → (∀ x ∈ xs, (0 : Int) ≤ x) → E.rt (.int r) [.dx a b c xs n ys, .d (.int m), d2, d3, d4]) : wDraw E [.dx a b c xs n ys, .d (.int m), .em, .em, .em] := by
  unfold wDraw
  cases xs with
  | nil =>
    have hpos : 0 < ys.length := List.length_pos_iff.mpr hy
    obtain ⟨z, _, hz⟩ := atI_ex (xs := ys) (j := (n + 1) % (ys.length : Int)) (Int.emod_nonneg _ (by omega)) (Int.emod_lt_of_pos _ (by omega))
    simp [wDrawB]
    rw [hz]
    simp
    refine ⟨hpos, cm_small (by omega) (by omega), cm_small (by omega) (by omega), cm_small (by omega) (by omega), cm_small (by omega) (by omega), by decide, hm, k _ _ _ _ _ _ (Int.emod_nonneg _ (by omega)) (Int.emod_lt_of_pos _ hm) (by simp)⟩
  | cons x xs =>
    have h0 : 0 ≤ x := hx x (by simp)
    simp [wDrawA]
    refine ⟨⟨hm, hl⟩, ?_⟩
    split
    · exact ⟨hm, k _ _ _ _ _ _ (Int.emod_nonneg _ (by omega)) (Int.emod_lt_of_pos _ hm) fun y hy => hx y (by simp [hy])⟩
    · refine ⟨hm, k _ _ _ _ _ _ (Int.emod_nonneg _ (by omega)) (Int.emod_lt_of_pos _ hm) fun y hy => ?_⟩
      rcases List.mem_cons.mp hy with e | hy
      · rw [e]; exact Int.ediv_nonneg h0 (by omega)
      · exact hx y (by simp [hy])
theorem ok_draw {P : Program} {w : World} {K : PySem.W.Frag} {mg : Str → Option Value} {base : Heap} {x qual : Str} {st : Stmt} {f : Addr} {fd : FuncData} {N ps : List Str} {k : Nat} (F : Fun K x qual st f fd) (S : FnScope N ps (defScope st)) (hN : N.length = 5) (hp : ps.length = 2)
    (body : ∀ (cdv : Value) (A : Around) (outer : List Env) (s : Shared) (H : Hp) (E : XK), RoomG k (A.deeper (envOfC qual (defScope st) s.heap.objs.size f cdv)) → JSs (cxOf CX0 P w K mg base N qual (defScope st) f cdv A outer s H E).nox (defBody st) wDraw) : FnG P w K mg base CX0 (k + 1) f fd ps (liftSp K spDraw) := by
  obtain ⟨oc, od, kV, doc, pm, an, cdv, ct, osl, rfl, lk', hcd⟩ := F.ex
  refine fnG_of lk' hcd S (fun vs H Q E ⟨B, G, cs, R, rel, ⟨a, b, c, m, e, _⟩, _⟩ => by have := rel.len; subst e; simp at this; omega) fun A outer s H vs Q E hr ⟨B, G, cs, R, rel, ⟨a, b, c, m, e, hm, hl, hR⟩, kk⟩ => ?_
  subst e
  have e0 : start0 N.length [Cell.dk a b c, .d (.int m)] = [.dk a b c, .d (.int m), .em, .em, .em] := by rw [hN]; rfl
  have rel0 : Rel K B G [.dk a b c, .d (.int m), .em, .em, .em] (L2.start N vs) H := e0 ▸ rel_start rel
  obtain ⟨o, hσ, rfl, h1, h2, h3, n, xs, ys, e1, e2, e3, hy, hx⟩ := rel0.at (i := 0) rfl
  have rel1 := rel0.swap (i := 0) (c' := .dx a b c xs n ys) rfl hσ rfl ⟨rfl, h1, h2, h3, e1, e2, e3⟩
  refine ⟨_, (body cdv A outer s H E hr).nox, B, G, _, { nx := fun _ => False, rt := fun z δ => ∃ r xs n d2 d3 d4, z = .int r ∧ 0 ≤ r ∧ r < m ∧ (∀ x ∈ xs, (0 : Int) ≤ x) ∧ δ = [.dx a b c xs n ys, .d (.int m), d2, d3, d4] }, rel1, ?_, ?_⟩
  · exact rd_draw hm hl hy hx fun r xs n d2 d3 d4 q0 q1 q2 => ⟨r, xs, n, d2, d3, d4, rfl, q0, q1, q2, rfl⟩
  · refine ⟨fun _ _ _ _ h => h.elim, ?_, fun _ _ _ _ h => h.elim, fun _ _ _ _ h => h.elim⟩
    rintro v σ' H' G' z δ' ⟨r, xs', n', d2, d3, d4, rfl, q0, q1, q2, rfl⟩ sG rel' dn
    obtain ⟨o', hσ', rfl, h1', h2', h3', e1', e2', e3'⟩ := rel'.at (i := 0) rfl
    have rel2 := rel'.swap (i := 0) (c' := .dk a b c) rfl hσ' rfl ⟨rfl, h1', h2', h3', n', xs', ys, e1', e2', e3', hy, q2⟩
    exact kk v H' G' (.int r) _ (hR r q0 q1) sG (rel_end rel rel2 sG ⟨rfl, trivial⟩) dn
end DL
set_option Elab.async false
set_option linter.all false
set_option maxRecDepth 100000
set_option maxHeartbeats 4000000
namespace DL
open PySem PySem.Spec PyProof.Rows L2
variable [Tb]

theorem roomG_caller {k : Nat} (h : Room k callerA) : RoomG k callerA := ⟨h, rfl⟩
/-- what is tracked when the law begins: the script, if it isn't one of the module's own things -/
noncomputable def scrH (K : PySem.W.Frag) (a : Addr) (vs : List Value) (ns : List Int) : Hp := by
  classical
  exact fun b => if b = a ∧ K.lookup a = none then some (.frz { cls := .type "list", data := .seq vs.toArray } (.lst (ns.map V.int))) else none
section
variable {K : PySem.W.Frag} {a b : Addr} {vs : List Value} {ns : List Int}
theorem scrH_some {u : HO} (h : scrH K a vs ns b = some u) : b = a ∧ K.lookup a = none ∧ u = .frz { cls := .type "list", data := .seq vs.toArray } (.lst (ns.map V.int)) := by
  unfold scrH at h
  split at h
  · rename_i c; exact ⟨c.1, c.2, (Option.some.inj h).symm⟩
  · cases h
theorem scrH_at (h : K.lookup a = none) : scrH K a vs ns a = some (.frz { cls := .type "list", data := .seq vs.toArray } (.lst (ns.map V.int))) := by
  unfold scrH; exact if_pos ⟨rfl, h⟩
end
/-- how the modules stand when the law is called -/
structure Began (K : PySem.W.Frag) (mg : Str → Option Value) (h : Heap) : Prop where
  code : K.In h
  own : h.Ns mainGlobals mg
  given : ∃ mb, h.Ns builtinsNs mb ∧ ∀ x : Str, x ≠ "__name__" → mb x = bootBuiltins x
  free : h.NoLimit
/-- the script lies at a -/
structure Script (h : Heap) (a : Addr) (vs : List Value) (ns : List Int) : Prop where
  at_a : h.get? a = some { cls := .type "list", data := .seq vs.toArray }
  nums : IntsAre vs ns
  fits : ns.length ≤ sizeLine
/-- the law over data: from the script, True -/
def spLaw : DSp := fun cs R => ∃ a ns, cs = [.scr a ns] ∧ ∀ cs', R (.bool true) cs'
/-- what is tracked at the start, but for tables -/
noncomputable def noTb (H : Hp) : Hp := by
  classical
  exact fun a => if ∃ ps, H a = some (.tbl ps) then none else H a
theorem noTb_some {H : Hp} {a : Addr} {o : HO} (h : noTb H a = some o) : H a = some o ∧ ∀ ps, o ≠ .tbl ps := by
  unfold noTb at h
  split at h
  · cases h
  · rename_i n
    exact ⟨h, fun ps e => n ⟨ps, by rw [h, e]⟩⟩
theorem noTb_at {H : Hp} {a : Addr} {o : HO} (h : H a = some o) (n : ∀ ps, o ≠ .tbl ps) : noTb H a = some o := by
  unfold noTb
  rw [if_neg fun ⟨ps, e⟩ => n ps (by rw [h] at e; cases e; rfl)]
  exact h
theorem noTb_seq {K : PySem.W.Frag} {H : Hp} {a : Addr} {xs : List V} (h : SqL K H a xs) : SqL K (noTb H) a xs := by
  rcases h with (h | ⟨o, h⟩) | h
  · exact .inl (.inl (noTb_at h fun _ z => (nomatch z)))
  · exact .inl (.inr ⟨o, noTb_at h fun _ z => (nomatch z)⟩)
  · exact .inr h
theorem law_start {K : PySem.W.Frag} {H : Hp} {a : Addr} {ns : List Int} (h : SqL K H a (ns.map V.int)) (hT : LamX.Tabs Tb.T H := by intro p hp; cases hp) : liftSp K spLaw [.ref a] H (fun v _ => v = .bl true) fun _ _ _ => False := by
  refine ⟨fun _ => none, noTb H, [.scr a ns], fun x _ => x = .bool true, ?_, ⟨a, ns, rfl, fun _ => rfl⟩, ?_⟩
  · refine ⟨rfl, fun a o e => (noTb_some e).1, fun a o e => (by cases e), fun a => .inr rfl, fun i c o e1 e2 => ?_, fun i j c c' a e1 e2 m1 m2 => ?_, fun i c a e m => ?_, ⟨hT, ⟨fun a o e => (by cases e), fun a o e => (noTb_some e).2⟩⟩⟩
    · cases i with
      | zero => simp at e1 e2; subst e1 e2; exact ⟨rfl, noTb_seq h⟩
      | succ i => simp at e1
    · cases i with
      | zero => simp at e1; subst e1; cases m1
      | succ i => simp at e1
    · cases i with
      | zero => simp at e; subst e; cases m
      | succ i => simp at e
  · rintro v H' G' x cs' rfl _ _ dn
    exact dn_bool dn
end DL
set_option Elab.async false
set_option linter.all false
set_option maxRecDepth 100000
set_option maxHeartbeats 4000000
namespace DL
open PySem PySem.Spec PyProof.Rows L2
variable [Tb]

section
variable {X : Cx} {x : Str} {pos : Pos} {e : Expr} {es : List Expr}
theorem jpv (i : Nat) (hN : X.N[i]? = some x := by rfl) (hv : Vis X.env.scope x := by first | exact .inl rfl | exact .inr (.inl rfl) | exact .inr (.inr rfl)) (hd : (x == ("__debug__" : Str)) = false := by decide) (hcd : (x == ("__classdict__" : Str)) = false := by decide) : PE X (.Name x pos) (tVar i) := pe_var hN hv hd hcd
theorem jv (i : Nat) (hN : X.N[i]? = some x := by rfl) (hv : Vis X.env.scope x := by first | exact .inl rfl | exact .inr (.inl rfl) | exact .inr (.inr rfl)) (hd : (x == ("__debug__" : Str)) = false := by decide) (hcd : (x == ("__classdict__" : Str)) = false := by decide) : JE X (.Name x pos) (wVar i) := je_var (pe_var hN hv hd hcd)
theorem jgn (i : Nat) (nd : X.N.Nodup) (hN : X.N[i]? = some x := by rfl) (hx : Loc X.env.scope x := by first | exact .inl rfl | exact .inr rfl) (hf : X.fn x = true ∨ X.env.scope.names.lookup x = some .local := by first | exact .inl rfl | exact .inr rfl) : JG X (.Name x pos) [i] (gN i) := jg_name nd hN hx hf
theorem jset (i : Nat) {w : DM} {pos' : Pos} (nd : X.N.Nodup) (he : JM X e w) (hi : X.N[i]? = some x := by rfl) (hx : Loc X.env.scope x := by first | exact .inl rfl | exact .inr rfl) (hs : swapsWith e (some (.Name x pos')) pos.line X.env = pure false := by rfl) (hf : X.fn x = true ∨ X.env.scope.names.lookup x = some .local := by first | exact .inl rfl | exact .inr rfl) :
    JS X (.Assign [.Name x pos'] e pos) (wSet i w) := js_set nd hi hx he hs hf
theorem jpar {i j : Nat} {x y : Str} {a b : Expr} {w : DMs} {px py pt : Pos} {kt k2 pt2} (hc : X.calm = true) (hN : X.N.Nodup) (hi : X.N[i]? = some x) (hj : X.N[j]? = some y) (hij : i ≠ j) (ha : JMs X [a, b] w) (hx : X.env.scope.names.lookup x = some .local := by rfl) (hy : X.env.scope.names.lookup y = some .local := by rfl) 
    (hw : swappedStores [.Tuple [.Name x px, .Name y py] kt pt] (.Tuple [a, b] k2 pt2) X.env = pure (some [x, y]) := by rfl) (hs : swapsWithSole [.Tuple [.Name x px, .Name y py] kt pt] (.Tuple [a, b] k2 pt2) pos.line X.env = pure false := by rfl) :
    JS X (.Assign [.Tuple [.Name x px, .Name y py] kt pt] (.Tuple [a, b] k2 pt2) pos) (wPar2 i j w) := js_par2 hc hN hi hj hij hx hy ha hw hs
def pIAdd : P2 := fun x y R => match x, y with
  | .int i, .int j => R (.int (i + j))
  | .str a, .str b => a.length + b.length ≤ 1000000 ∧ R (.str (a ++ b))
  | _, _ => False
def pISub : P2 := ints2 fun i j R => R (.int (i - j))
def pIMul : P2 := ints2 fun i j R => CMul i j ∧ R (.int (i * j))
def pIDiv : P2 := ints2 fun i j R => CDiv i j ∧ R (.int (i / j))
def pIMod : P2 := ints2 fun i j R => 0 < j ∧ R (.int (i % j))
omit [Tb] in
@[simp] theorem pIAdd_ii (i j : Int) (R : PyData → Prop) : pIAdd (.int i) (.int j) R = R (.int (i + j)) := rfl
omit [Tb] in
@[simp] theorem pIAdd_ss (a b : Str) (R : PyData → Prop) : pIAdd (.str a) (.str b) R = (a.length + b.length ≤ 1000000 ∧ R (.str (a ++ b))) := rfl
omit [Tb] in
@[simp] theorem pISub_ii (i j : Int) (R : PyData → Prop) : pISub (.int i) (.int j) R = R (.int (i - j)) := rfl
omit [Tb] in
@[simp] theorem pIMul_ii (i j : Int) (R : PyData → Prop) : pIMul (.int i) (.int j) R = (CMul i j ∧ R (.int (i * j))) := rfl
omit [Tb] in
@[simp] theorem pIDiv_ii (i j : Int) (R : PyData → Prop) : pIDiv (.int i) (.int j) R = (CDiv i j ∧ R (.int (i / j))) := rfl
omit [Tb] in
@[simp] theorem pIMod_ii (i j : Int) (R : PyData → Prop) : pIMod (.int i) (.int j) R = (0 < j ∧ R (.int (i % j))) := rfl
end
end DL
set_option Elab.async false
set_option linter.all false
set_option maxRecDepth 100000
set_option maxHeartbeats 4000000
namespace DL
open PySem PySem.Spec PyProof.Rows L2
variable [Tb]

variable {g : DTG} {t : DT} {e : DE} {vs : List Nat} {xs : List PyData} {δ : DS}
theorem com_map {α : Type} {R : List PyData → DS → Prop} {u : Stop R} (as : List α) (d : α → PyData) (hx : xs = as.map d) (f : α → Option PyData)
    (hs : ∀ a ∈ as, ∀ (acc : List PyData) (K : List PyData → DS → Prop), K (acc ++ (f a).toList) δ → g (d a) δ fun δ1 => t δ1 fun b δ2 => if b = true then e δ2 fun o δ3 => lk o δ3 fun y δ4 => K (acc ++ [y]) (wipeD δ4 vs) else K acc (wipeD δ2 vs)) (k : R (as.filterMap f) δ) : comC g t e vs xs [] δ R u := by
  subst hx
  refine com_inv (fun ys acc δ' => δ' = δ ∧ ∃ bs : List α, ys = bs.map d ∧ (∀ x ∈ bs, x ∈ as) ∧ acc ++ bs.filterMap f = as.filterMap f) ⟨rfl, as, rfl, fun _ h => h, rfl⟩ ?_ ?_
  · rintro acc δ' ⟨rfl, bs, hb, _, h⟩
    have : bs = [] := by cases bs with
      | nil => rfl
      | cons => cases hb
    subst this
    have h' : acc = as.filterMap f := by simpa using h
    rw [h']; exact k
  · rintro x ys acc δ' ⟨rfl, bs, hb, hm, h⟩ K hK
    cases bs with
    | nil => cases hb
    | cons a bs =>
      simp only [List.map_cons, List.cons.injEq] at hb
      obtain ⟨rfl, rfl⟩ := hb
      refine hs a (hm a (List.mem_cons_self ..)) acc K (hK _ _ ⟨rfl, bs, rfl, fun y hy => hm y (List.mem_cons_of_mem _ hy), ?_⟩)
      rw [← h, List.filterMap_cons]
      cases f a <;> simp
theorem list_of {α : Type} {d : α → PyData} {P : α → Prop} : ∀ {ys : List PyData}, (∀ y ∈ ys, ∃ a, y = d a ∧ P a) → ∃ as : List α, ys = as.map d ∧ ∀ a ∈ as, P a
  | [], _ => ⟨[], rfl, by simp⟩
  | y :: ys, h => by
    obtain ⟨i, rfl, hi⟩ := h y (List.mem_cons_self ..)
    obtain ⟨ns, rfl, hn⟩ := list_of (ys := ys) fun z hz => h z (List.mem_cons_of_mem _ hz)
    exact ⟨i :: ns, rfl, fun j hj => by
      rcases List.mem_cons.mp hj with q | q
      · rw [q]; exact hi
      · exact hn j q⟩
/-- each item by one of many, of a kind -/
theorem com_of {α : Type} {R : List PyData → DS → Prop} {u : Stop R} (d : α → PyData) (P : α → Prop)
    (hs : ∀ x ∈ xs, ∀ (acc : List PyData) (K : List PyData → DS → Prop), (∀ a, P a → K (acc ++ [d a]) δ) → g x δ fun δ1 => t δ1 fun b δ2 => if b = true then e δ2 fun o δ3 => lk o δ3 fun y δ4 => K (acc ++ [y]) (wipeD δ4 vs) else K acc (wipeD δ2 vs)) (k : ∀ as : List α, as.length = xs.length → (∀ a ∈ as, P a) → R (as.map d) δ) : comC g t e vs xs [] δ R u :=
  com_any (fun y => ∃ a, y = d a ∧ P a) (fun x hx acc K hK => hs x hx acc K fun i hi => hK _ ⟨i, rfl, hi⟩) fun ys hl hy => by
    obtain ⟨ns, rfl, hn⟩ := list_of hy
    exact k ns (by simpa using hl) hn
theorem cutD_take {α : Type} (xs : List α) (n : Nat) : cutD xs none (some (n : Int)) = xs.take n := by
  unfold cutD
  rw [HT.sIx_none, HT.sIx_nat]
  simp only [List.drop_zero, Nat.sub_zero]
  by_cases h : n ≤ xs.length
  · rw [Nat.min_eq_left h]
  · rw [Nat.min_eq_right (by omega), List.take_of_length_le (by omega), List.take_of_length_le (by omega)]
theorem for_map {α : Type} {b : DTS} {E : DEnds} {u : Stop E} (as : List α) (d : α → PyData) (hx : xs = as.map d) (P : List α → DS → Prop) (Q : DS → Prop) (Z : PyData → DS → Prop) (h : P as δ) (h0 : ∀ δ, P [] δ → E.nx δ) (hq : ∀ δ, Q δ → E.nx δ) (hz : ∀ x δ, Z x δ → E.rt x δ)
    (hs : ∀ a bs δ, P (a :: bs) δ → ∀ (K B : DS → Prop) (T : PyData → DS → Prop), (∀ δ', P bs δ' → K δ') → (∀ δ', Q δ' → B δ') → (∀ x δ', Z x δ' → T x δ') → g (d a) δ fun δ1 => b { nx := K, rt := T, bk := B, ct := K } δ1) : forC g b xs δ E u := by
  subst hx
  refine for_inv (fun ys δ' => ∃ bs : List α, ys = bs.map d ∧ P bs δ') Q Z ⟨as, rfl, h⟩ ?_ hq hz ?_
  · rintro δ ⟨bs, hb, p⟩
    cases bs with
    | nil => exact h0 δ p
    | cons => cases hb
  · rintro x ys δ ⟨bs, hb, p⟩ K B T hK hB hT
    cases bs with
    | nil => cases hb
    | cons a bs =>
      simp only [List.map_cons, List.cons.injEq] at hb
      obtain ⟨rfl, rfl⟩ := hb
      exact hs a bs δ p K B T (fun δ' p' => hK δ' ⟨bs, rfl, p'⟩) hB hT
/-- a loop without break and return -/
theorem for_plain {α : Type} {b : DTS} {E : DEnds} {u : Stop E} (as : List α) (d : α → PyData) (hx : xs = as.map d) (P : List α → DS → Prop) (h : P as δ) (h0 : ∀ δ, P [] δ → E.nx δ)
    (hs : ∀ a bs δ, P (a :: bs) δ → ∀ (K B : DS → Prop) (T : PyData → DS → Prop), (∀ δ', P bs δ' → K δ') → g (d a) δ fun δ1 => b { nx := K, rt := T, bk := B, ct := K } δ1) : forC g b xs δ E u :=
  for_map as d hx P (fun _ => False) (fun _ _ => False) h h0 (fun _ h => h.elim) (fun _ _ h => h.elim) fun a bs δ p K B T hK _ _ => hs a bs δ p K B T hK
theorem nums_map (lo : Int) (n : Nat) : nums lo n = (List.range n).map fun (i : Nat) => PyData.int (lo + (i : Int)) := rfl
theorem nums_0 (n : Nat) : nums 0 n = (List.range n).map fun (i : Nat) => PyData.int (i : Int) := by simp [nums]
theorem log_lt {m : Int} {k : Nat} (h0 : 0 < m) (h1 : m < 2 ^ k) : m.natAbs.log2 < k := by
  have : m.natAbs < 2 ^ k := by
    have e : (m.natAbs : Int) = m := Int.natAbs_of_nonneg (by omega)
    have h2 : ((m.natAbs : Nat) : Int) < ((2 ^ k : Nat) : Int) := by rw [e]; simpa using h1
    exact Int.ofNat_lt.mp h2
  exact (Nat.log2_lt (by omega)).mpr this
theorem ask_of {sp : DSp} {cs : List Cell} {K : PyData → List Cell → Prop} {u : Stop K} (h : sp cs K) : ask sp cs K u := h
theorem cm_r {i j : Int} (h : -(2 ^ 64) < j ∧ j < 2 ^ 64) : CMul i j ∨ CMulW i j := .inl (.inr h)
/-- a draw -/
theorem ask_draw {a b c : Addr} {m : Int} {K : PyData → List Cell → Prop} {u : Stop K} (h0 : 0 < m) (h1 : m < 2 ^ 64) (k : ∀ r, 0 ≤ r → r < m → K (.int r) [.dk a b c, .d (.int m)]) : ask spDraw [.dk a b c, .d (.int m)] K u :=
  ⟨a, b, c, m, rfl, h0, Nat.lt_trans (log_lt h0 h1) (by decide), k⟩
/-- the deck is made -/
theorem ask_deck {a : Addr} {ns : List Int} {K : Cell → List Cell → Prop} {u : Stop K} (k : ∀ p q r, K (.dk p q r) [.scr a ns]) : askM spDeck [.scr a ns] K u := ⟨a, ns, rfl, k⟩
end DL
set_option Elab.async false
set_option linter.all false
set_option maxRecDepth 100000
set_option maxHeartbeats 4000000
namespace DL
open PySem PySem.Spec PyProof.Rows L2
variable [Tb]

/-- ints of less than B bits, sequences of at most L items, n deep -/
def Sml (B L : Nat) : Nat → PyData → Prop
  | _, .none => True
  | _, .bool _ => True
  | _, .int i => i.natAbs.log2 < B
  | n + 1, .list xs => xs.length ≤ L ∧ ∀ x ∈ xs, Sml B L n x
  | n + 1, .tuple xs => xs.length ≤ L ∧ ∀ x ∈ xs, Sml B L n x
  | _, _ => False
theorem shownAll_map : ∀ xs : List PyData, PyData.shownAll xs = xs.map PyData.shown
  | [] => by simp [PyData.shownAll]
  | x :: xs => by simp [PyData.shownAll, shownAll_map xs]
omit [Tb] in
@[simp] theorem sml_int (B L n : Nat) (i : Int) : Sml B L n (.int i) = (i.natAbs.log2 < B) := by cases n <;> rfl
omit [Tb] in
@[simp] theorem sml_none (B L n : Nat) : Sml B L n .none = True := by cases n <;> rfl
omit [Tb] in
@[simp] theorem sml_bool (B L n : Nat) (b : Bool) : Sml B L n (.bool b) = True := by cases n <;> rfl
omit [Tb] in
@[simp] theorem sml_list (B L n : Nat) (xs : List PyData) : Sml B L (n + 1) (.list xs) = (xs.length ≤ L ∧ ∀ x ∈ xs, Sml B L n x) := rfl
omit [Tb] in
@[simp] theorem sml_tuple (B L n : Nat) (xs : List PyData) : Sml B L (n + 1) (.tuple xs) = (xs.length ≤ L ∧ ∀ x ∈ xs, Sml B L n x) := rfl
end DL
set_option Elab.async false
set_option linter.all false
set_option maxRecDepth 100000
set_option maxHeartbeats 4000000
namespace DL
open PySem PySem.Spec PyProof.Rows L2
variable [Tb]

def wPar3 (i j k : Nat) (w : DMs) : DTS := fun E δ => w δ fun cs δ1 => ∃ c d e, cs = [c, d, e] ∧ E.nx (((δ1.set i c).set j d).set k e)
omit [Tb] in
@[simp ↓] theorem wPar3_ap (i j k : Nat) (w : DMs) (E : DEnds) (δ : DS) : wPar3 i j k w E δ = (w δ fun cs δ1 => match cs with
  | [c, d, e] => E.nx (((δ1.set i c).set j d).set k e)
  | _ => False) := by
  unfold wPar3
  congr 1; funext cs δ1
  match cs with
  | [] => simp
  | [c] => simp
  | [c, d] => simp
  | [c, d, e] => exact propext ⟨fun ⟨c', d', e', h0, h⟩ => by cases h0; exact h, fun h => ⟨c, d, e, rfl, h⟩⟩
  | c :: d :: e :: f :: r => simp
def wAsgG (w : DE) (g : DTG) : DTS := fun E δ => w δ fun o δ1 => lk o δ1 fun x δ2 => g x δ2 E.nx
omit [Tb] in
@[simp ↓] theorem wAsgG_ap (w : DE) (g : DTG) (E : DEnds) (δ : DS) : wAsgG w g E δ = (w δ fun o δ1 => lk o δ1 fun x δ2 => g x δ2 E.nx) := rfl
section
variable {X : Cx} {pos : Pos} {e : Expr}
theorem jpar3 {i j l : Nat} {x y z : Str} {a b c : Expr} {w : DMs} {px py pz pt : Pos} {kt k2 pt2} (hc : X.calm = true) (hN : X.N.Nodup) (hi : X.N[i]? = some x) (hj : X.N[j]? = some y) (hk : X.N[l]? = some z) (hij : i ≠ j) (hik : i ≠ l) (hjk : j ≠ l) (ha : JMs X [a, b, c] w) (hx : X.env.scope.names.lookup x = some .local := by rfl) (hy : X.env.scope.names.lookup y = some .local := by rfl) (hz : X.env.scope.names.lookup z = some .local := by rfl)
    (hw : swappedStores [.Tuple [.Name x px, .Name y py, .Name z pz] kt pt] (.Tuple [a, b, c] k2 pt2) X.env = pure (some [x, y, z]) := by rfl) (hs : swapsWithSole [.Tuple [.Name x px, .Name y py, .Name z pz] kt pt] (.Tuple [a, b, c] k2 pt2) pos.line X.env = pure false := by rfl) :
    JS X (.Assign [.Tuple [.Name x px, .Name y py, .Name z pz] kt pt] (.Tuple [a, b, c] k2 pt2) pos) (wPar3 i j l w) := ps_le (ps_par3 hc hN hi hj hk hij hik hjk hx hy hz ha hw hs) fun pins s σ H D I ⟨B, G, δ, E, rel, hw, k⟩ => ⟨B, G, δ, _, rel, hw, fun vs H1 G1 cs δ1 r1 s1 rel1 hB ok1 => by
  obtain ⟨c, d, f, rfl, q⟩ := r1
  cases ok1 with
  | cons h1 d1 t1 =>
    cases t1 with
    | cons h2 d2 t2 =>
      cases t2 with
      | cons h3 d3 t3 =>
        cases t3
        rename_i v u w
        refine ⟨v, u, w, rfl, ?_⟩
        have e : fps [c, d, f] = c.fp ++ (d.fp ++ (f.fp ++ [])) := by simp [fps]
        rw [e] at rel1
        have R2 := Rel.store (i := i) rel1 (fun a m => hB a (by simp [fps, m])) (fun a m => by have := d1 a m; simpa [fps] using this) h1
        have R3 := Rel.store (i := j) R2 (fun a m => hB a (by simp [fps, m])) (fun a m => by have := d2 a m; simpa [fps] using this) h2
        have R4 := Rel.store (i := l) R3 (fun a m => hB a (by simp [fps, m])) (fun a m z => nomatch z) h3
        rw [bov_nil] at R4
        exact k.nx _ H1 G1 _ q s1 R4⟩
end
end DL
set_option Elab.async false
set_option linter.all false
set_option maxRecDepth 100000
set_option maxHeartbeats 4000000
namespace DL
open PySem PySem.Spec PyProof.Rows L2
variable [Tb]

theorem numbered_zip {α : Type} (d : α → PyData) : ∀ (as : List α) (n : Nat), numbered n (as.map d) = (as.zipIdx n).map fun p => .tuple [.int (p.2 : Nat), d p.1]
  | [], n => by simp [numbered]
  | a :: as, n => by simp [numbered, numbered_zip d as (n + 1)]
end DL
set_option Elab.async false
set_option linter.all false
set_option maxRecDepth 100000
set_option maxHeartbeats 4000000
namespace DL
open PySem PySem.Spec PyProof.Rows L2
variable [Tb]
section
variable {l : Addr} {its : Array Value} {n : Nat} {dd : Option Addr} {sl : Array (Option Value)} {x : Int} {u : Tok}
theorem fits63 (lo : -(2 ^ 63) ≤ x) (hi : x < 2 ^ 63) : (decide (x < -(2 ^ 63)) || decide (x ≥ 2 ^ 63)) = false := by simp; omega
/-- the tuple itself is handed back: an empty one, or once -/
theorem mul_same (lo : -(2 ^ 63) ≤ x) (hi : x < 2 ^ 63) (same : (its.isEmpty || x == 1) = true) :
    Meets (Builtin.«tuple.__mul__» ⟨[.ref l, .int x u], []⟩) (fun _ R s => s.heap.get? l = some { cls := .type "tuple", dict := dd, data := .seq its n, slots := sl } ∧ R (.ok (.ret (Value.ref l))) s) := by
  refine .of_wp fun prog w A R => ?_
  rintro ⟨hp, gs, dr, tk, os⟩ ⟨at_l, h⟩
  have fit := fits63 lo hi
  have ix := AutoSeq1.idx_int
  wp_walk using wpAny_loadPart' at_l
  all_goals simp only [fit, same, Bool.false_eq_true, ↓reduceIte]
  wp_walk using wpAny_loadPart' at_l
  all_goals (try simp only [fit, same, Bool.false_eq_true, ↓reduceIte])
  all_goals (first | (wp_walk using wpAny_loadPart' at_l; exact ⟨_, rfl, h⟩) | exact ⟨_, rfl, h⟩)
/-- no times at all: a new empty tuple -/
theorem mul_none (lo : -(2 ^ 63) ≤ x) (le : x ≤ 0) (some' : its.isEmpty = false) :
    Meets (Builtin.«tuple.__mul__» ⟨[.ref l, .int x u], []⟩) (fun _ R s => s.heap.get? l = some { cls := .type "tuple", dict := dd, data := .seq its n, slots := sl } ∧
      R (.ok (.ret (Value.ref s.heap.objs.size))) { s with heap := s.heap.push { cls := Value.type "tuple", data := Data.seq #[] }, toks := s.toks }) := by
  refine .of_wp fun prog w A R => ?_
  rintro ⟨hp, gs, dr, tk, os⟩ ⟨at_l, h⟩
  have fit := fits63 lo (Int.lt_of_le_of_lt le (by decide))
  have once : (x == 1) = false := by simp; omega
  have ix := AutoSeq1.idx_int
  wp_walk using wpAny_loadPart' at_l
  all_goals simp only [fit, once, some', Bool.or_false, Bool.false_eq_true, ↓reduceIte]
  wp_walk using wpAny_loadPart' at_l
  all_goals (try simp only [once, some', decide_eq_true le, Bool.or_false, Bool.false_eq_true, ↓reduceIte])
  all_goals (first | (wp_walk using wpAny_loadPart' at_l; exact ⟨_, rfl, h⟩) | exact ⟨_, rfl, h⟩)
end
omit [Tb] in
/-- what `t * k` asks of a tuple's own multiplication, and no more -/
theorem mul_asks {X : Cx} {s : Shared} {l : Addr} {its : Array Value} {n : Nat} {dd : Option Addr} {sl : Array (Option Value)} {k : Int} {t : Tok} {G E : Value → Shared → Prop}
    (at_l : s.heap.get? l = some { cls := .type "tuple", dict := dd, data := .seq its n, slots := sl }) {W : Shared → Value} {f : Shared → Shared}
    (own : Meets (Builtin.«tuple.__mul__» ⟨[.ref l, .int k t], []⟩) (fun _ R s => s.heap.get? l = some { cls := .type "tuple", dict := dd, data := .seq its n, slots := sl } ∧ R (.ok (.ret (W s))) (f s))) (h : G (W s) (f s)) :
    wpAny (model X.prog X.w) X.A (binaryOp .Mult (.ref l) (.int k t)) G E s := by
  have ty : s.TypeIs (.ref l) "tuple" := ⟨_, at_l, rfl⟩
  have back := int_rmul_tuple k t l its n dd sl
  exact wpAny_binaryOp_repeat_ref (by decide) ty (typeIs_int · k t) noFill_tuple_mul F.fills_int_mul F.slot_int_rmul repeat_tuple F.slot_int_index.lookup
    (call_meets F.slot_int_rmul (typeIs_int s k t) F.entry_int_rmul (F.args_int_rmul_2 _ _) back ⟨at_l, rfl, ty, call_meets F.slot_tuple_mul ty F.entry_tuple_mul (F.args_tuple_mul_2 _ _) own ⟨at_l, h⟩⟩)
/-- t * k, t not empty, twice at least -/
def rRepM (K : PySem.W.Frag) : R2 := fun x y H Q => ∃ l k xs, x = .ref l ∧ y = .int k ∧ SqT K H l xs ∧ xs ≠ [] ∧ 2 ≤ k ∧ k ≤ 100000 ∧ k.toNat * xs.length ≤ 1000000 ∧ NewT H Q (List.replicate k.toNat xs).flatten
theorem op_repM {X : Cx} : OpR X (binaryOp .Mult) (rRepM X.K) := by
  rintro pins s σ H _ _ _ _ Q I rx ry ⟨l, k, xs, rfl, rfl, isT, some', two, many, all, q⟩
  cases rx
  obtain ⟨tok, rfl⟩ := ry
  obtain ⟨its, vals, ⟨⟨_, dd, _, sl⟩, at_l, rfl, n, rfl⟩, _⟩ := I.tuple isT
  have len := vals.length
  have all' : (its.toArray.size : Int) * k ≤ 1000000 := by
    have h := Int.ofNat_le.mpr all
    rw [Int.natCast_mul, Int.toNat_of_nonneg (by omega)] at h
    rw [List.size_toArray, ← len, Int.mul_comm]
    exact h
  have put : (List.replicate k.toNat its).flatten.length ≤ sizeLine := by rw [PyProof.Rows.lm_len_rep_flat, ← len]; exact Nat.le_trans all (by decide +kernel)
  have there : its.toArray.isEmpty = false := by
    cases vals with
    | nil => exact absurd rfl some'
    | cons => rfl
  have mul := tuple_mulW l its.toArray n dd sl k tok (fits63 (by omega) (by omega)) (by simp [there]; omega) (by simp [there]; omega) (by omega) (decide_eq_false (by rw [sizeLine_eq]; omega)) (by rw [size_rep, List.size_toArray]; exact put)
  rw [size_rep] at mul
  refine mul_asks at_l mul (q.at (k := s.toks) I ?_ (vals.rep k.toNat))
  rw [PyProof.Rows.lm_len_rep_flat]
  exact Nat.le_trans all (by decide +kernel)
/-- t * k -/
def rRepA (K : PySem.W.Frag) : R2 := fun x y H Q => ∃ l k xs, x = .ref l ∧ y = .int k ∧ SqT K H l xs ∧ -1000 ≤ k ∧ k ≤ 1000 ∧ xs.length ≤ 1000 ∧ (xs = [] ∨ k = 1 → Q (.ref l) H) ∧ (¬ (xs = [] ∨ k = 1) → NewT H Q (List.replicate k.toNat xs).flatten)
section
variable {X : Cx}
theorem op_repA : OpR X (binaryOp .Mult) (rRepA X.K) := by
  rintro pins s σ H _ _ _ _ Q I rx ry ⟨l, k, xs, rfl, rfl, isT, lo, hi, short, once, else'⟩
  by_cases c : 2 ≤ k ∧ xs ≠ []
  · exact op_repM pins s σ H _ _ _ _ Q I rx ry ⟨l, k, xs, rfl, rfl, isT, c.2, c.1, by omega, Nat.le_trans (Nat.mul_le_mul (show k.toNat ≤ 1000 by omega) short) (by decide), else' (fun z => z.elim c.2 (by omega))⟩
  cases rx
  obtain ⟨tok, rfl⟩ := ry
  obtain ⟨its, vals, ⟨⟨_, dd, _, sl⟩, at_l, rfl, n, rfl⟩, _⟩ := I.tuple isT
  by_cases c' : xs = [] ∨ k = 1
  · refine mul_asks at_l (mul_same (by omega) (by omega) ?_) ⟨.ref l, _, I, rfl, once c'⟩
    rcases c' with rfl | rfl
    · cases vals; rfl
    · exact Bool.or_true _
  · have le : k ≤ 0 := by
      have : ¬ k = 1 := fun e => c' (.inr e)
      have : ¬ 2 ≤ k := fun e => c ⟨e, fun z => c' (.inl z)⟩
      omega
    have q := else' c'
    rw [Int.toNat_of_nonpos le] at q
    have q : NewT H Q ([] : List V) := q
    refine mul_asks at_l (mul_none (by omega) le ?_) (q.at (k := s.toks) I (by decide +kernel) .nil)
    cases vals with
    | nil => exact absurd (.inl rfl) c'
    | cons => rfl
def pMulT : P2 := fun x y R => match x, y with
  | .int i, .int j => (CMul i j ∨ CMulW i j) ∧ R (.int (i * j))
  | .list xs, .int k => 0 ≤ k ∧ xs.length * k.toNat ≤ 1000000 ∧ k < 1000000 ∧ R (.list (List.replicate k.toNat xs).flatten)
  | .tuple xs, .int k => (-1000 ≤ k ∧ k ≤ 1000 ∧ xs.length ≤ 1000) ∧ R (.tuple (List.replicate k.toNat xs).flatten)
  | _, _ => False
theorem d_mulT : OpD X (binaryOp .Mult) pMulT := by
  intro pins s σ H x y v u Q I rx ry ⟨B, G, δ, σ', dx, dy, R, rel, bx, by', q, k⟩
  cases dx <;> cases dy <;> first | exact False.elim q | skip
  · exact d_mul pins s σ H x y v u Q I rx ry ⟨B, G, δ, σ', _, _, R, rel, bx, by', q, k⟩
  · exact d_mul pins s σ H x y v u Q I rx ry ⟨B, G, δ, σ', _, _, R, rel, bx, by', q, k⟩
  · rename_i ds i
    obtain ⟨a, vs, rfl, ha, ta⟩ := bor_tupS bx
    obtain ⟨⟨q0, q1, q2⟩, q3⟩ := q
    refine op_repA pins s σ H _ _ v u Q I rx ry ⟨a, i, vs, rfl, bor_int by', sqT_mono rel.sg ha.sq, q0, q1, by rw [ta.len]; exact q2, fun hc => ?_, fun hc p o hd np => ?_⟩
    · refine k _ H G _ q3 (Same.refl _) rel ?_
      rcases hc with rfl | rfl
      · have : ds = [] := by have := ta.len; simp at this; exact List.eq_nil_of_length_eq_zero this.symm
        subst this
        rw [List.flatten_replicate_nil] <;> exact Dn.tup ha ta
      · have e : (List.replicate (1 : Int).toNat ds).flatten = ds := by simp
        rw [e]; exact Dn.tup ha ta
    · obtain ⟨rel3, s3, at3⟩ := rel.laidT np hd
      exact k _ _ _ _ q3 s3 rel3 (Dn.tup at3 ((ta.rep _).mono s3))
omit [Tb] in
@[simp ↓] theorem pMulT_ii (i : Int) (j : Int) (R : PyData → Prop) : pMulT (.int i) (.int j) R = ((CMul i j ∨ CMulW i j) ∧ R (.int (i * j))) := rfl
omit [Tb] in
@[simp ↓] theorem pMulT_li (xs : List PyData) (k : Int) (R : PyData → Prop) : pMulT (.list xs) (.int k) R = (0 ≤ k ∧ xs.length * k.toNat ≤ 1000000 ∧ k < 1000000 ∧ R (.list (List.replicate k.toNat xs).flatten)) := rfl
omit [Tb] in
@[simp ↓] theorem pMulT_ti (xs : List PyData) (k : Int) (R : PyData → Prop) : pMulT (.tuple xs) (.int k) R = ((-1000 ≤ k ∧ k ≤ 1000 ∧ xs.length ≤ 1000) ∧ R (.tuple (List.replicate k.toNat xs).flatten)) := rfl
end
end DL
set_option Elab.async false
set_option linter.all false
set_option maxRecDepth 100000
set_option maxHeartbeats 4000000
namespace DL
open PySem PySem.Spec PyProof.Rows L2
variable [Tb]
mutual
/-- a value reads as data, and where a dict is read it is empty and not the table of modules -/
def RdN (h : Heap) (v : Value) : PyData → Prop
  | .dict kvs => kvs = [] ∧ ∃ a o es n, v = .ref a ∧ a ≠ sysModules ∧ h.get? a = some o ∧ o.cls = .type "dict" ∧ o.data = .dict es n ∧ es.toList = []
  | .list xs => ∃ a o vs n, v = .ref a ∧ h.get? a = some o ∧ o.cls = .type "list" ∧ o.data = .seq vs n ∧ RdNs h vs.toList xs
  | .tuple xs => ∃ a o vs n, v = .ref a ∧ h.get? a = some o ∧ o.cls = .type "tuple" ∧ o.data = .seq vs n ∧ RdNs h vs.toList xs
  | d => Reads h v d []
def RdNs (h : Heap) (vs : List Value) : List PyData → Prop
  | [] => vs = []
  | d :: ds => ∃ v us, vs = v :: us ∧ RdN h v d ∧ RdNs h us ds
end
mutual
theorem RdN.reads {h : Heap} : ∀ (d : PyData) {v : Value}, RdN h v d → ∃ as, Reads h v d as
  | .none, _, r => ⟨_, r⟩
  | .bool _, _, r => ⟨_, r⟩
  | .int _, _, r => ⟨_, r⟩
  | .str _, _, r => ⟨_, r⟩
  | .list xs, _, ⟨_, _, _, _, e, h1, h2, h3, h4⟩ => (RdNs.reads xs h4).elim fun _ q => e ▸ ⟨_, Reads.list h1 h2 h3 q⟩
  | .tuple xs, _, ⟨_, _, _, _, e, h1, h2, h3, h4⟩ => (RdNs.reads xs h4).elim fun _ q => e ▸ ⟨_, Reads.tuple h1 h2 h3 q⟩
  | .dict _, _, ⟨z, _, _, _, _, e, _, h1, h2, h3, h4⟩ => e ▸ z ▸ ⟨_, Reads.dict (kvs := []) (as := []) (bs := []) h1 h2 h3 (by rw [h4]; exact ReadsAll.nil) (by rw [h4]; exact ReadsAll.nil)⟩
theorem RdNs.reads {h : Heap} : ∀ (ds : List PyData) {vs : List Value}, RdNs h vs ds → ∃ as, ReadsAll h vs ds as
  | [], _, e => e ▸ ⟨_, ReadsAll.nil⟩
  | d :: ds, _, ⟨_, _, e, a, b⟩ => (RdN.reads d a).elim fun _ p => (RdNs.reads ds b).elim fun _ q => e ▸ ⟨_, ReadsAll.cons p q⟩
end
section
variable {prog : Program} {w : World} {h₀ : Heap}
/-- what is told of a value that reads: somewhere below it, its repr is its text -/
def Tells (prog : Program) (w : World) (h₀ : Heap) (v : Value) (d : PyData) : Prop :=
  (∃ as, Reads h₀ v d as) ∧ (d.showable = true → d.shown.length ≤ sizeLine → ∃ bs, ReadAtMost h₀ d.depth bs ∧ ReprK prog w bs h₀ d.depth v d.shown)
def TellsAll (prog : Program) (w : World) (h₀ : Heap) (vs : List Value) (ds : List PyData) : Prop :=
  (∃ as, ReadsAll h₀ vs ds as) ∧ (PyData.showableAll ds = true → (∀ t ∈ PyData.shownAll ds, t.length ≤ sizeLine) → ∃ bs, ReadAtMost h₀ (PyData.depthAll ds) bs ∧ ReprAllK prog w bs h₀ (PyData.depthAll ds) vs (PyData.shownAll ds))
/-- .. and, for a thing of the heap, by its class's own method -/
def Shows (prog : Program) (w : World) (h₀ : Heap) (v : Value) (d : PyData) : Prop :=
  d.showable = true → d.shown.length ≤ sizeLine → ∃ a T idr, v = .ref a ∧ ShowsBy prog w h₀ a d T idr
theorem TellsAll.none : TellsAll prog w h₀ [] [] := ⟨⟨_, .nil⟩, fun _ _ => ⟨[], nofun, .nil⟩⟩
theorem TellsAll.more {v : Value} {d : PyData} {vs : List Value} {ds : List PyData} (a : Tells prog w h₀ v d) (b : TellsAll prog w h₀ vs ds) : TellsAll prog w h₀ (v :: vs) (d :: ds) := by
  obtain ⟨⟨as, ra⟩, ka⟩ := a
  obtain ⟨⟨bs, rb⟩, kb⟩ := b
  refine ⟨⟨_, .cons ra rb⟩, fun sh short => ?_⟩
  rw [PyData.showableAll, Bool.and_eq_true] at sh
  rw [PyData.shownAll] at short ⊢
  obtain ⟨cs, below_c, one⟩ := ka sh.1 (short _ List.mem_cons_self)
  obtain ⟨ds', below_d, rest⟩ := kb sh.2 fun t m => short t (List.mem_cons_of_mem _ m)
  rw [PyData.depthAll]
  exact ⟨cs ++ ds', (below_c.mono (Nat.le_max_left _ _)).append (below_d.mono (Nat.le_max_right _ _)), .cons ((one.more fun _ => List.mem_append_left _).level_le (Nat.le_max_left _ _)) (rest.more_le (fun _ => List.mem_append_right _) (Nat.le_max_right _ _))⟩
theorem tells_tuple {a : Addr} {o : Obj} {vs : Array Value} {n : Nat} {xs : List PyData} (at_a : h₀.get? a = some o) (cl : o.cls = .type "tuple") (dt : o.data = .seq vs n) (all : TellsAll prog w h₀ vs.toList xs) :
    Tells prog w h₀ (.ref a) (.tuple xs) ∧ Shows prog w h₀ (.ref a) (.tuple xs) := by
  obtain ⟨⟨as, rs⟩, told⟩ := all
  have r : Reads h₀ (.ref a) (.tuple xs) as := .tuple at_a cl dt rs
  have go : (PyData.tuple xs).showable = true → (PyData.tuple xs).shown.length ≤ sizeLine → ∃ bs, ReadAtMost h₀ (PyData.depthAll xs) bs ∧ a ∉ bs ∧ ReprAllK prog w bs h₀ (PyData.depthAll xs) vs.toList (PyData.shownAll xs) := fun sh short => by
    rw [PyData.showable] at sh
    rw [PyData.shown] at short
    obtain ⟨bs, below, k⟩ := told sh fun t m => Nat.le_trans (tupleText_mem_le m) short
    exact ⟨bs, below, not_mem_of_deeper r (by rw [PyData.depth]; omega) below, k⟩
  refine ⟨⟨⟨_, r⟩, fun sh short => ?_⟩, fun sh short => ?_⟩ <;> obtain ⟨bs, below, out, k⟩ := go sh short
  · rw [PyData.depth, PyData.shown]
    exact ⟨a :: bs, ReadAtMost.cons r (by rw [PyData.depth]; omega) below, ReprK.tuple at_a cl dt out k⟩
  · refine ⟨a, "tuple", "tuple.__repr__", rfl, { slotRepr := F.slot_tuple_repr, slotStr := F.slot_tuple_str, slotFmt := F.slot_tuple_format, typeIs := fun s kept => ⟨o, kept _ _ at_a, cl⟩, call := ?_ }⟩
    intro A E s Q calm room kept done
    rw [PyData.depth] at room
    rw [PyData.shown] at done short
    exact call_tuple_reprK at_a cl dt out k calm (fun b _ => Clear.nil b) room kept done short
theorem tells_list {a : Addr} {o : Obj} {vs : Array Value} {n : Nat} {xs : List PyData} (at_a : h₀.get? a = some o) (cl : o.cls = .type "list") (dt : o.data = .seq vs n) (all : TellsAll prog w h₀ vs.toList xs) :
    Tells prog w h₀ (.ref a) (.list xs) ∧ Shows prog w h₀ (.ref a) (.list xs) := by
  obtain ⟨⟨as, rs⟩, told⟩ := all
  have r : Reads h₀ (.ref a) (.list xs) (a :: as) := .list at_a cl dt rs
  have go : (PyData.list xs).showable = true → (PyData.list xs).shown.length ≤ sizeLine → ∃ bs, ReadAtMost h₀ (PyData.depthAll xs) bs ∧ a ∉ bs ∧ ReprAllK prog w bs h₀ (PyData.depthAll xs) vs.toList (PyData.shownAll xs) := fun sh short => by
    rw [PyData.showable] at sh
    rw [PyData.shown] at short
    obtain ⟨bs, below, k⟩ := told sh fun t m => Nat.le_trans (listText_mem_le m) short
    exact ⟨bs, below, not_mem_of_deeper r (by rw [PyData.depth]; omega) below, k⟩
  have slots (call) : ShowsBy prog w h₀ a (.list xs) "list" "list.__repr__" := { slotRepr := F.slot_list_repr.toG, slotStr := F.slot_list_str, slotFmt := F.slot_list_format, typeIs := fun s kept => ⟨o, kept _ _ at_a, cl⟩, call := call }
  rcases vs with ⟨_ | ⟨v, us⟩⟩
  · cases rs
    refine ⟨⟨⟨_, r⟩, fun _ _ => ⟨[a], ReadAtMost.cons r (Nat.le_refl _) nofun, ?_⟩⟩, fun _ _ => ⟨a, _, _, rfl, slots ?_⟩⟩
    · rw [PyData.shown, PyData.shownAll, listText_nil]
      exact ReprK.listEmpty at_a cl dt
    · intro A E s Q calm room kept done
      rw [PyData.shown, PyData.shownAll, listText_nil] at done
      exact call_list_repr_empty ⟨o, kept _ _ at_a, cl⟩ (kept _ _ at_a) dt (done s.heap _ _ fun _ _ e => e)
  · have each : ∀ {bs : List Addr}, ReprAllK prog w bs h₀ (PyData.depthAll xs) (v :: us) (PyData.shownAll xs) → (PyData.shownAll xs).length = (v :: us).toArray.size ∧ ∀ (i : Nat) (y : Value), (v :: us).toArray[i]? = some y → ∃ t, (PyData.shownAll xs)[i]? = some t ∧ ReprK prog w bs h₀ (PyData.depthAll xs) y t :=
      fun k => ⟨k.length_eq, fun i y e => k.item i y (by rw [← List.getElem?_toArray]; exact e)⟩
    refine ⟨⟨⟨_, r⟩, fun sh short => ?_⟩, fun sh short => ?_⟩ <;> obtain ⟨bs, below, out, k⟩ := go sh short
    · rw [PyData.depth, PyData.shown]
      exact ⟨a :: bs, ReadAtMost.cons r (by rw [PyData.depth]; omega) below, ReprK.list at_a cl dt out (each k).1 (each k).2⟩
    · refine ⟨a, _, _, rfl, slots ?_⟩
      intro A E s Q calm room kept done
      rw [PyData.depth] at room
      rw [PyData.shown] at done short
      exact call_list_reprK at_a cl dt out (each k).1 (each k).2 calm (fun b _ => Clear.nil b) room kept done short
theorem tells_empty {a : Addr} {o : Obj} {es : Array DictEntry} {n : Nat} (other : a ≠ sysModules) (at_a : h₀.get? a = some o) (cl : o.cls = .type "dict") (dt : o.data = .dict es n) (no : es.toList = []) :
    Tells prog w h₀ (.ref a) (.dict []) ∧ Shows prog w h₀ (.ref a) (.dict []) := by
  have r : Reads h₀ (.ref a) (.dict []) [a] := Reads.dict (kvs := []) (as := []) (bs := []) at_a cl dt (by rw [no]; exact ReadsAll.nil) (by rw [no]; exact ReadsAll.nil)
  have out : (a == sysModules) = false := beq_false_of_ne other
  have entries : ReprEntriesK prog w [] h₀ 0 es.toList [] := by rw [no]; exact .nil
  have deep : (PyData.dict []).depth = 0 + 1 := by rw [PyData.depth, PyData.depthKv]
  have text : (PyData.dict []).shown = dictText [] := by rw [PyData.shown, PyData.shownKv]
  refine ⟨⟨⟨_, r⟩, fun _ _ => ⟨[a], ReadAtMost.cons r (Nat.le_refl _) nofun, ?_⟩⟩, fun _ short => ⟨a, "dict", "dict.__repr__", rfl, { slotRepr := F.slot_dict_repr, slotStr := F.slot_dict_str, slotFmt := F.slot_dict_format, typeIs := fun s kept => ⟨o, kept _ _ at_a, cl⟩, call := ?_ }⟩⟩
  · rw [deep, text]
    exact ReprK.dict at_a cl dt out List.not_mem_nil entries
  · intro A E s Q calm room kept done
    rw [deep] at room
    rw [text] at done short
    exact call_dict_reprK at_a cl dt out List.not_mem_nil entries calm (fun b _ => Clear.nil b) room kept done short
theorem tells_flat {v : Value} {d : PyData} {t : Str} (r : Reads h₀ v d []) (is : d.showable = true → d.shown.length ≤ sizeLine → ReprIs prog w v d.shown) : Tells prog w h₀ v d :=
  ⟨⟨_, r⟩, fun sh short => ⟨[], nofun, .of_is (is sh short) _ _ _⟩⟩
mutual
theorem RdN.tells : ∀ (d : PyData) {v : Value}, RdN h₀ v d → Tells prog w h₀ v d
  | .none, _, r => tells_flat (t := "") r fun _ _ => by cases r; exact ReprIs.none
  | .bool _, _, r => tells_flat (t := "") r fun _ _ => by cases r; exact ReprIs.bool _
  | .int _, _, r => tells_flat (t := "") r fun sh _ => by cases r; exact ReprIs.int _ (by simpa [PyData.showable] using sh)
  | .str _, _, r => tells_flat (t := "") r fun _ short => by cases r; exact ReprIs.str _ _ (by rw [PyData.shown] at short; exact short)
  | .list xs, _, r => by obtain ⟨a, o, vs, n, rfl, h1, h2, h3, h4⟩ := r; exact (tells_list h1 h2 h3 (RdNs.tells xs h4)).1
  | .tuple xs, _, r => by obtain ⟨a, o, vs, n, rfl, h1, h2, h3, h4⟩ := r; exact (tells_tuple h1 h2 h3 (RdNs.tells xs h4)).1
  | .dict kvs, _, r => by obtain ⟨rfl, a, o, es, n, rfl, h1, h2, h3, h4, h5⟩ := r; exact (tells_empty h1 h2 h3 h4 h5).1
theorem RdNs.tells : ∀ (ds : List PyData) {vs : List Value}, RdNs h₀ vs ds → TellsAll prog w h₀ vs ds
  | [], _, r => by cases r; exact .none
  | d :: ds, _, r => by obtain ⟨v, us, rfl, a, b⟩ := r; exact .more (RdN.tells d a) (RdNs.tells ds b)
end
theorem RdN.shows {a : Addr} : ∀ {d : PyData}, RdN h₀ (.ref a) d → Shows prog w h₀ (.ref a) d
  | .none, r => nomatch (show Reads _ _ _ _ from r)
  | .bool _, r => nomatch (show Reads _ _ _ _ from r)
  | .int _, r => nomatch (show Reads _ _ _ _ from r)
  | .str _, r => nomatch (show Reads _ _ _ _ from r)
  | .list xs, r => by obtain ⟨b, o, vs, n, e, h1, h2, h3, h4⟩ := r; cases e; exact (tells_list h1 h2 h3 (RdNs.tells xs h4)).2
  | .tuple xs, r => by obtain ⟨b, o, vs, n, e, h1, h2, h3, h4⟩ := r; cases e; exact (tells_tuple h1 h2 h3 (RdNs.tells xs h4)).2
  | .dict kvs, r => by obtain ⟨rfl, b, o, es, n, e, h1, h2, h3, h4, h5⟩ := r; cases e; exact (tells_empty h1 h2 h3 h4 h5).2
theorem repr_of_N {a : Addr} {d : PyData} {A : Around} {E : Value → Shared → Prop} {s : Shared} {Q : Value → Shared → Prop} (r : RdN s.heap (.ref a) d) (sh : d.showable = true) (short : d.shown.length ≤ sizeLine) (calm : A.guards = some []) (room : A.units + (d.depth + 1) < cLine)
    (done : ∀ h' u tk, (∀ b o, s.heap.get? b = some o → h'.get? b = some o) → Q (.str d.shown u) { s with heap := h', toks := tk }) : wpAny (model prog w) A (call (.builtin "repr") [.ref a]) Q E s := by
  obtain ⟨_, T, idr, e, S⟩ := RdN.shows (prog := prog) (w := w) r sh short
  cases e
  have in1 : A.in1.units = A.units + 1 := rfl
  exact call_repr_slot (by omega) (S.typeIs s fun _ _ e => e) S.slotRepr (S.call A.in1 E s _ calm (by omega) (fun _ _ e => e) fun h' u tk kept => ⟨_, _, rfl, done h' u tk kept⟩)
end
mutual
def noO : PyData → Bool
  | .list xs | .tuple xs => noOL xs
  | .dict (_ :: _) => false
  | _ => true
def noOL : List PyData → Bool
  | [] => true
  | x :: xs => noO x && noOL xs
end
mutual
theorem noO_show {K : PySem.W.Frag} {G : Hp} : ∀ {v : V} {d : PyData}, Dn K G v d → d.showable = true → noO d = true
  | _, _, .non, _ => rfl
  | _, _, .bl _, _ => rfl
  | _, _, .int _, _ => rfl
  | _, _, .str _, _ => rfl
  | _, _, .lst _ t, h => by rw [noO]; exact noOL_show t (by simpa [PyData.showable] using h)
  | _, _, .tup _ t, h => by rw [noO]; exact noOL_show t (by simpa [PyData.showable] using h)
  | _, _, .dic _ _, _ => rfl
  | _, _, .ob _ _ _ _, h => by
    have z : ¬ markI.natAbs.log2 < 1920 := by decide +kernel
    simp [PyData.showable, PyData.showableKv, z] at h
  | _, _, .fK _ _ _, h => by
    have z : ¬ markI.natAbs.log2 < 1920 := by decide +kernel
    simp [PyData.showable, PyData.showableKv, z] at h
  | _, _, .fT _ _ _, h => by
    have z : ¬ markI.natAbs.log2 < 1920 := by decide +kernel
    simp [PyData.showable, PyData.showableKv, z] at h
theorem noOL_show {K : PySem.W.Frag} {G : Hp} : ∀ {vs : List V} {ds : List PyData}, DnL K G vs ds → PyData.showableAll ds = true → noOL ds = true
  | _, _, .nil, _ => rfl
  | _, _, .cons a b, h => by
    rw [PyData.showableAll, Bool.and_eq_true] at h
    rw [noOL, noO_show a h.1, noOL_show b h.2]
    rfl
end
mutual
theorem noO_lay : ∀ d : PyData, d.canLay0 = true → noO d = true
  | .none, _ => rfl
  | .bool _, _ => rfl
  | .int _, _ => rfl
  | .str _, _ => rfl
  | .list xs, h => by rw [noO]; exact noOL_lay xs (by simpa [PyData.canLay0] using h)
  | .tuple xs, h => by rw [noO]; exact noOL_lay xs (by simpa [PyData.canLay0] using h)
  | .dict _, h => by simp [PyData.canLay0] at h
theorem noOL_lay : ∀ ds : List PyData, PyData.canLayAll0 ds = true → noOL ds = true
  | [], _ => rfl
  | d :: ds, h => by
    rw [PyData.canLayAll0, Bool.and_eq_true] at h
    rw [noOL, noO_lay d h.1, noOL_lay ds h.2]
    rfl
end
theorem noOL_ints : ∀ ns : List Int, noOL (ns.map PyData.int) = true
  | [] => rfl
  | n :: ns => by rw [List.map_cons, noOL, noOL_ints ns]; rfl
omit [Tb] in
@[simp] theorem noO_i (i : Int) : noO (.int i) = true := rfl
omit [Tb] in
@[simp] theorem noO_b (i : Bool) : noO (.bool i) = true := rfl
omit [Tb] in
@[simp] theorem noO_s (i : Str) : noO (.str i) = true := rfl
omit [Tb] in
@[simp] theorem noO_n : noO .none = true := rfl
omit [Tb] in
@[simp] theorem noOL_e : noOL [] = true := rfl
section
variable {X : Cx} {pins : List (Addr × Obj)} {σ : L2.St} {H : Hp} {s : Shared}
mutual
theorem Dn.rdN (I : L2.Inv X pins σ H s) : ∀ (d : PyData) {v : V} {u : Value}, noO d = true → Dn X.K H v d → RelV v u → RdN s.heap u d
  | .none, _, _, _, h, r => by cases h; cases r; exact Reads.none
  | .bool b, _, _, _, h, r => by cases h; cases r; exact Reads.bool b
  | .int i, _, _, _, h, r => by cases h; obtain ⟨t, rfl⟩ := r; exact Reads.int i t
  | .str x, _, _, _, h, r => by cases h; obtain ⟨t, rfl⟩ := r; exact Reads.str x t
  | .list ds, _, _, c, .lst h t, r => by
    rw [noO] at c
    cases r
    obtain ⟨its, rv, ⟨o, n, ho, hc, _, hd⟩, _⟩ := I.list (SqL.of h)
    exact ⟨_, o, _, n, rfl, ho, hc, hd, DnL.rdN I ds c t rv⟩
  | .tuple ds, _, _, c, .tup h t, r => by
    rw [noO] at c
    cases r
    obtain ⟨its, rv, ⟨o, ho, hc, n, hd⟩, _⟩ := I.tuple h.sq
    exact ⟨_, o, _, n, rfl, ho, hc, hd, DnL.rdN I ds c t rv⟩
  | .dict (_ :: _), _, _, c, _, _ => by simp [noO] at c
  | .dict [], _, _, _, .dic h n, r => by
    cases r
    obtain ⟨_, other, vs, kv, o, es, ep, ho, ⟨hc, _⟩, hd, _, hp, _⟩ := I.hok _ _ h
    cases kv
    have no : ∀ l, Pairs (mixKind X.prog X.w) l ([] : List (L2.Key × Value)) → l = [] := fun l q => by cases q; rfl
    exact ⟨rfl, _, o, es, ep, rfl, beq_eq_false_iff_ne.mp other, ho, hc, hd, no _ hp⟩
theorem DnL.rdN (I : L2.Inv X pins σ H s) : ∀ (ds : List PyData) {vs : List V} {us : List Value}, noOL ds = true → DnL X.K H vs ds → Vals vs us → RdNs s.heap us ds
  | [], _, _, _, h, r => by cases h; cases r; exact rfl
  | d :: ds, _, _, c, .cons a b, .cons r1 r2 => by
    rw [noOL, Bool.and_eq_true] at c
    exact ⟨_, _, rfl, Dn.rdN I d c.1 a r1, DnL.rdN I ds c.2 b r2⟩
end
end

/-- repr of data, with empty dicts or not -/
def pReprN : PN := one fun x R => x.showable = true ∧ x.depth ≤ 60 ∧ x.shown.length ≤ 16000000 ∧ R (.str x.shown)
section
variable {X : Cx}
theorem c_reprN (hg : X.A.guards = some []) (hu : X.A.units + 64 < cLine) : CallD X (.builtin "repr") pReprN := by
  intro pins s σ H vs us Q I r ⟨B, G, δ, σ', ds, R, rel, b, q, k⟩
  match ds, q with
  | [d], ⟨q1, q3, q4, q⟩ =>
    obtain ⟨v, rfl, bd⟩ := b.one
    obtain ⟨u, rfl, ru⟩ := vals1 r; have dn := bd.dn rel
    have fin := k (.str d.shown) H G _ q (Same.refl _) rel (Dn.str _)
    have hsz : d.shown.length ≤ sizeLine := Nat.le_trans q4 (by decide)
    have rd := Dn.rdN I d (noO_show dn q1) dn ru
    have go : ∀ {x : Str} {t : Tok} {s' : Shared}, x = d.shown → Inv X pins σ H s' → EP X pins σ Q (.str x t) s' := fun {x t s'} e I' => by
      subst e
      exact ⟨.str d.shown, H, I', ⟨t, rfl⟩, fin⟩
    have big : ∀ a, u = .ref a → wpAny (model X.prog X.w) X.A (call (.builtin "repr") [u]) (EP X pins σ Q) X.xe s := fun a e => by
      subst e
      exact repr_of_N rd q1 hsz hg (by omega) fun h' u tk hk => go rfl (I.kept hk)
    cases dn with
    | non => cases ru; exact PySem.P.repr_of_none (go rfl (I.tok _))
    | bl b => cases ru; exact PySem.P.repr_of_bool (go (by cases b <;> simp [PyData.shown]) (I.tok _))
    | int i => obtain ⟨t, rfl⟩ := ru; exact PySem.P.repr_of_int (by simpa [PyData.showable] using q1) (go (by simp [PyData.shown]) (I.tok _))
    | str z => obtain ⟨t, rfl⟩ := ru; exact PySem.P.repr_of_str (go (by simp [PyData.shown]) (I.tok _)) (by simpa [PyData.shown] using hsz)
    | lst h t => cases ru; exact big _ rfl
    | tup h t => cases ru; exact big _ rfl
    | dic h n => cases ru; exact big _ rfl
    | ob h k e t => cases ru; exact big _ rfl
    | fK h e t => cases ru; exact big _ rfl
    | fT h e t => cases ru; exact big _ rfl
end
omit [Tb] in
@[simp ↓] theorem pReprN_x (x : PyData) (R : PyData → Prop) : pReprN [x] R = (x.showable = true ∧ x.depth ≤ 60 ∧ x.shown.length ≤ 16000000 ∧ R (.str x.shown)) := rfl
end DL
set_option Elab.async false
set_option linter.all false
set_option maxRecDepth 100000
set_option maxHeartbeats 4000000
namespace DL
open PySem PySem.Spec PyProof.Rows L2
variable [Tb]
section
variable {prog : Program} {w : World} {A : Around} {E : Value → Shared → Prop} {s : Shared}
end
section
variable {X : Cx}
/-- x[::-1] of a list or a tuple -/
def revD (x : PyData) (k : PyData → Prop) : Prop := match x with
  | .list ds => k (.list ds.reverse)
  | .tuple ds => k (.tuple ds.reverse)
  | _ => False
omit [Tb] in
@[simp ↓] theorem revD_l (ds : List PyData) (k : PyData → Prop) : revD (.list ds) k = k (.list ds.reverse) := rfl
omit [Tb] in
@[simp ↓] theorem revD_t (ds : List PyData) (k : PyData → Prop) : revD (.tuple ds) k = k (.tuple ds.reverse) := rfl
def wRevA (w : DE) : DE := fun δ R => w δ fun o δ1 => use o δ1 fun x => revD x fun z => R (.d z) δ1
omit [Tb] in
@[simp ↓] theorem wRevA_ap (w : DE) (δ : DS) (R : Opd → DS → Prop) : wRevA w δ R = (w δ fun o δ1 => use o δ1 fun x => revD x fun z => R (.d z) δ1) := rfl
def pAddB : P2 := fun x y R => match x, y with
  | .bool b, .int j => R (.int ((if b = true then 1 else 0) + j))
  | x, y => pAdd x y R
def pSubB : P2 := fun x y R => match x, y with
  | .bool b, .int j => R (.int ((if b = true then 1 else 0) - j))
  | x, y => pSub x y R
theorem d_addB : OpD X (binaryOp .Add) pAddB := by
  intro pins s σ H x y v u Q I rx ry ⟨B, G, δ, σ', dx, dy, R, rel, bx, by', q, k⟩
  by_cases c : ∃ b j, dx = .bool b ∧ dy = .int j
  · obtain ⟨b, j, rfl, rfl⟩ := c
    obtain rfl := bor_bool bx
    obtain rfl := bor_int by'
    cases rx
    obtain ⟨t, rfl⟩ := ry
    exact IntBool.add_bool_int ⟨.int _, H, I.tok _, ⟨_, rfl⟩, k _ H G _ q (Same.refl _) rel (Dn.int _)⟩
  · refine d_add pins s σ H x y v u Q I rx ry ⟨B, G, δ, σ', dx, dy, R, rel, bx, by', ?_, k⟩
    unfold pAddB at q
    split at q
    · exact absurd ⟨_, _, rfl, rfl⟩ c
    · exact q
theorem d_subB : OpD X (binaryOp .Sub) pSubB := by
  intro pins s σ H x y v u Q I rx ry ⟨B, G, δ, σ', dx, dy, R, rel, bx, by', q, k⟩
  by_cases c : ∃ b j, dx = .bool b ∧ dy = .int j
  · obtain ⟨b, j, rfl, rfl⟩ := c
    obtain rfl := bor_bool bx
    obtain rfl := bor_int by'
    cases rx
    obtain ⟨t, rfl⟩ := ry
    exact IntBool.sub_bool_int ⟨.int _, H, I.tok _, ⟨_, rfl⟩, k _ H G _ q (Same.refl _) rel (Dn.int _)⟩
  · refine d_sub pins s σ H x y v u Q I rx ry ⟨B, G, δ, σ', dx, dy, R, rel, bx, by', ?_, k⟩
    unfold pSubB at q
    split at q
    · exact absurd ⟨_, _, rfl, rfl⟩ c
    · exact q
omit [Tb] in
@[simp ↓] theorem pAddB_bi (b : Bool) (j : Int) (R : PyData → Prop) : pAddB (.bool b) (.int j) R = R (.int ((if b = true then 1 else 0) + j)) := rfl
omit [Tb] in
@[simp ↓] theorem pAddB_ii (i : Int) (j : Int) (R : PyData → Prop) : pAddB (.int i) (.int j) R = (R (.int (i + j))) := rfl
omit [Tb] in
@[simp ↓] theorem pAddB_ss (a : Str) (b : Str) (R : PyData → Prop) : pAddB (.str a) (.str b) R = (a.length + b.length ≤ 1000000 ∧ R (.str (a ++ b))) := rfl
omit [Tb] in
@[simp ↓] theorem pAddB_tt (xs : List PyData) (ys : List PyData) (R : PyData → Prop) : pAddB (.tuple xs) (.tuple ys) R = (xs.length + ys.length ≤ 1000000 ∧ R (.tuple (xs ++ ys))) := rfl
omit [Tb] in
@[simp ↓] theorem pAddB_ll (xs : List PyData) (ys : List PyData) (R : PyData → Prop) : pAddB (.list xs) (.list ys) R = (xs.length + ys.length ≤ 1000000 ∧ R (.list (xs ++ ys))) := rfl
omit [Tb] in
@[simp ↓] theorem pSubB_bi (b : Bool) (j : Int) (R : PyData → Prop) : pSubB (.bool b) (.int j) R = R (.int ((if b = true then 1 else 0) - j)) := rfl
omit [Tb] in
@[simp ↓] theorem pSubB_ii (i : Int) (j : Int) (R : PyData → Prop) : pSubB (.int i) (.int j) R = (R (.int (i - j))) := rfl
end
end DL
namespace DL
open PySem PySem.Spec PyProof.Rows L2
variable [Tb]
def pStrB : PN := one fun x R => match x with
  | .int i => i.natAbs.log2 < 1920 ∧ R (.str (toString i))
  | .bool b => R (.str (if b then ("True" : Str) else ("False" : Str)))
  | .str z => R (.str z)
  | _ => False
section
variable {X : Cx}
omit [Tb] in
@[simp ↓] theorem pStrB_i (i : Int) (R : PyData → Prop) : pStrB [.int i] R = (i.natAbs.log2 < 1920 ∧ R (.str (toString i))) := rfl
omit [Tb] in
@[simp ↓] theorem pStrB_b (b : Bool) (R : PyData → Prop) : pStrB [.bool b] R = R (.str (if b then ("True" : Str) else ("False" : Str))) := rfl
omit [Tb] in
@[simp ↓] theorem pStrB_s (z : Str) (R : PyData → Prop) : pStrB [.str z] R = R (.str z) := rfl
end
section
variable {P : Program} {w : World} {K : PySem.W.Frag} {mg : Str → Option Value} {base : Heap} {CX : CXT} {f : Addr} {fd : FuncData} {ps : List Str} {k : Nat}
end
end DL
set_option Elab.async false
set_option linter.all false
set_option maxRecDepth 100000
set_option maxHeartbeats 4000000
namespace DL
open PySem PySem.Spec PyProof.Rows L2
variable [Tb]
section
omit [Tb]
mutual
theorem noO_alike : ∀ d : PyData, W.alike d d = true → noO d = true
  | .none, _ => rfl
  | .bool _, _ => rfl
  | .int _, _ => rfl
  | .str _, _ => rfl
  | .list xs, h => by rw [noO]; exact noOL_alike xs (by simpa [W.alike] using h)
  | .tuple xs, h => by rw [noO]; exact noOL_alike xs (by simpa [W.alike] using h)
  | .dict _, h => by simp [W.alike] at h
theorem noOL_alike : ∀ ds : List PyData, W.alikeAll ds ds = true → noOL ds = true
  | [], _ => rfl
  | d :: ds, h => by
    rw [W.alikeAll, Bool.and_eq_true] at h
    rw [noOL, noO_alike d h.1, noOL_alike ds h.2]
    rfl
end
end
/-- upwards -/
abbrev leD : PyData → PyData → Bool := W.dataLe false id
def sortD (ds : List PyData) : List PyData := ds.mergeSort leD
def pSorted : PN := one fun x R => match x with
  | .list ds => W.AllAlike ds ∧ W.Sortable ds ∧ ds.length ≤ 1000000 ∧ (∀ d ∈ ds, d.depth ≤ 50) ∧ R (.list (sortD ds))
  | _ => False
section
variable {X : Cx}
theorem each_zip {K : PySem.W.Frag} {G : Hp} : ∀ {vs : List V} {us : List Value} {ds : List PyData}, Vals vs us → DnL K G vs ds → W.EachIs (fun u (b : V × PyData) => RelV b.1 u ∧ Dn K G b.1 b.2) us (vs.zip ds)
  | _, _, _, .nil, .nil => .nil
  | _, _, _, .cons r t, .cons a b => .cons ⟨r, a⟩ (each_zip t b)
theorem each_unzip {K : PySem.W.Frag} {G : Hp} : ∀ {us : List Value} {bs : List (V × PyData)}, W.EachIs (fun u (b : V × PyData) => RelV b.1 u ∧ Dn K G b.1 b.2) us bs → Vals (bs.map Prod.fst) us ∧ DnL K G (bs.map Prod.fst) (bs.map Prod.snd)
  | _, _, .nil => ⟨.nil, .nil⟩
  | _, _, .cons h t => ⟨.cons h.1 (each_unzip t).1, .cons h.2 (each_unzip t).2⟩
theorem zip_snd : ∀ {α β : Type} {vs : List α} {ds : List β}, vs.length = ds.length → (vs.zip ds).map Prod.snd = ds
  | _, _, [], [], _ => rfl
  | _, _, _ :: _, _ :: _, h => by
    rw [List.zip_cons_cons, List.map_cons, zip_snd (Nat.succ.inj h)]
theorem sort_snd (bs : List (V × PyData)) : (bs.mergeSort (W.dataLe false Prod.snd)).map Prod.snd = sortD (bs.map Prod.snd) :=
  List.map_mergeSort fun a _ b _ => rfl
theorem c_sorted (hu : X.A.units + 64 < cLine) : CallD X (.builtin "sorted") pSorted := by
  intro pins s σ H vs us Q I r ⟨B, G, δ, σ', ds, R, rel, b, q, k⟩
  match ds, q with
  | [d], q =>
    obtain ⟨v, rfl, bd⟩ := b.one
    cases d with
    | list xs =>
      obtain ⟨q1, q2, q3, q4, q⟩ := q
      obtain ⟨a, ws, rfl, ha, ta⟩ := bor_lst rel bd
      obtain ⟨u, rfl, ru⟩ := vals1 r
      cases ru
      obtain ⟨its, rv, hl, hz⟩ := I.list (SqL.of ha)
      have e0 := each_zip rv ta
      have ln : ws.length = xs.length := ta.len
      have es : (ws.zip xs).map Prod.snd = xs := zip_snd ln
      refine W.sorted_data (enc := Prod.snd) (bs := ws.zip xs) hl.isList e0 ((W.each_mem e0).mono fun u b ⟨hb, hm⟩ => (Dn.rdN I b.2 (noO_alike _ (q1 _ (by rw [← es]; exact List.mem_map.mpr ⟨b, hm, rfl⟩) _ (by rw [← es]; exact List.mem_map.mpr ⟨b, hm, rfl⟩))) (hb.2.mono rel.sg) hb.1).reads) (by rw [es]; exact q1) (by rw [es]; exact q2) ?_ ?_ ?_
      · rw [List.length_zip, ln, Nat.min_self]
        exact Nat.le_trans q3 (by decide)
      · intro b hb
        have := q4 b.2 (List.of_mem_zip hb).2
        omega
      · intro out ho eo
        obtain ⟨n, hn⟩ := sortedAll_at s.heap its (List.toArray out)
        obtain ⟨v1, d1⟩ := each_unzip eo
        have np : H (s.heap.objs.size + 1) = none := I.hok.fresh (Nat.le_succ _)
        rw [sort_snd, es] at d1
        generalize hb : (List.mergeSort (ws.zip xs) (W.dataLe false Prod.snd)).map Prod.fst = nb at v1 d1
        obtain ⟨rel3, s3⟩ := rel.laid (o := .lst nb) np
        have lb : nb.length ≤ sizeLine := by
          rw [← hb, List.length_map, List.length_mergeSort, List.length_zip, ln, Nat.min_self]
          exact Nat.le_trans q3 (by decide)
        exact ⟨.ref _, upd H _ (.lst nb), I.laid (o := .lst nb) (t' := s.toks) (fun _ _ => sortedAll_old) (Nat.le_succ _) ⟨lb, out, n, v1, hn⟩, rfl, k _ _ _ _ q s3 rel3 (Dn.lst upd_same (DnL.mono s3 _ d1))⟩
    | _ => exact False.elim q
end
omit [Tb] in
@[simp ↓] theorem pSorted_l (ds : List PyData) (R : PyData → Prop) : pSorted [.list ds] R = (W.AllAlike ds ∧ W.Sortable ds ∧ ds.length ≤ 1000000 ∧ (∀ d ∈ ds, d.depth ≤ 50) ∧ R (.list (sortD ds))) := rfl
end DL
set_option Elab.async false
set_option linter.all false
set_option maxRecDepth 100000
set_option maxHeartbeats 4000000
namespace DL
open PySem PySem.Spec PyProof.Rows L2
variable [Tb]
def pMaxS : PN := one fun x R => match x with
  | .list ds => ∃ ns : List Int, ds = ns.map PyData.int ∧ 0 < ns.length ∧ ∀ m, m ∈ ns → (∀ y ∈ ns, y ≤ m) → R (.int m)
  | .tuple ds => ∃ ns : List Int, ds = ns.map PyData.int ∧ 0 < ns.length ∧ ∀ m, m ∈ ns → (∀ y ∈ ns, y ≤ m) → R (.int m)
  | _ => False
def pMinS : PN := one fun x R => match x with
  | .list ds => ∃ ns : List Int, ds = ns.map PyData.int ∧ 0 < ns.length ∧ ∀ m, m ∈ ns → (∀ y ∈ ns, m ≤ y) → R (.int m)
  | .tuple ds => ∃ ns : List Int, ds = ns.map PyData.int ∧ 0 < ns.length ∧ ∀ m, m ∈ ns → (∀ y ∈ ns, m ≤ y) → R (.int m)
  | _ => False
theorem alike_ints (ns : List Int) : W.AlikeAll (ns.map PyData.int) := ⟨fun x hx y hy => by
  obtain ⟨a, _, rfl⟩ := List.mem_map.mp hx
  obtain ⟨b, _, rfl⟩ := List.mem_map.mp hy
  rfl, fun x hx => by
  obtain ⟨a, _, rfl⟩ := List.mem_map.mp hx
  intro h; cases h⟩
theorem foldl_max_mem : ∀ (n : Int) (ns : List Int), ns.foldl max n ∈ n :: ns ∧ ∀ y ∈ n :: ns, y ≤ ns.foldl max n
  | n, [] => ⟨by simp, by simp⟩
  | n, m :: ns => by
    obtain ⟨h1, h2⟩ := foldl_max_mem (max n m) ns
    rw [List.foldl_cons]
    refine ⟨?_, fun y hy => ?_⟩
    · rcases List.mem_cons.mp h1 with e | e
      · rw [e]
        by_cases c : n ≤ m
        · rw [Int.max_eq_right c]; simp
        · rw [Int.max_eq_left (by omega)]; simp
      · exact List.mem_cons_of_mem _ (List.mem_cons_of_mem _ e)
    · have h3 := h2 (max n m) (List.mem_cons_self ..)
      rcases List.mem_cons.mp hy with rfl | hy
      · have := Int.le_max_left y m; omega
      · rcases List.mem_cons.mp hy with rfl | hy
        · have := Int.le_max_right n y; omega
        · exact h2 y (List.mem_cons_of_mem _ hy)
theorem foldl_min_mem : ∀ (n : Int) (ns : List Int), ns.foldl min n ∈ n :: ns ∧ ∀ y ∈ n :: ns, ns.foldl min n ≤ y
  | n, [] => ⟨by simp, by simp⟩
  | n, m :: ns => by
    obtain ⟨h1, h2⟩ := foldl_min_mem (min n m) ns
    rw [List.foldl_cons]
    refine ⟨?_, fun y hy => ?_⟩
    · rcases List.mem_cons.mp h1 with e | e
      · rw [e]
        by_cases c : n ≤ m
        · rw [Int.min_eq_left c]; simp
        · rw [Int.min_eq_right (by omega)]; simp
      · exact List.mem_cons_of_mem _ (List.mem_cons_of_mem _ e)
    · have h3 := h2 (min n m) (List.mem_cons_self ..)
      rcases List.mem_cons.mp hy with rfl | hy
      · have := Int.min_le_left y m; omega
      · rcases List.mem_cons.mp hy with rfl | hy
        · have := Int.min_le_right n y; omega
        · exact h2 y (List.mem_cons_of_mem _ hy)
section
variable {X : Cx}
theorem rdNs_reads {h : Heap} {vs : List Value} {ds : List PyData} (r : RdNs h vs ds) : ∃ as, ReadsAll h vs ds as := RdNs.reads ds r
theorem reads_int {h : Heap} {v : Value} {d : PyData} {as : List Addr} {n : Int} {t : Tok} (r : Reads h v d as) (e : v = .int n t) : d = .int n := by
  subst e; cases r; rfl
theorem int_at {ns : List Int} {us : List Value} (r : Vals (ns.map V.int) us) {i : Nat} {v : Value} (h : us[i]? = some v) : ∃ n t, v = .int n t ∧ n ∈ ns := by
  have hl := r.length
  have hi : i < us.length := (List.getElem?_eq_some_iff.mp h).1
  have hi2 : i < ns.length := by have := hl; rw [List.length_map] at this; omega
  have h2 : (ns.map V.int)[i]? = some (.int ns[i]) := by rw [List.getElem?_map, List.getElem?_eq_getElem hi2]; rfl
  obtain ⟨u, hu, ru⟩ := Vals.get r h2
  rw [h] at hu; cases hu
  obtain ⟨t, rfl⟩ := ru
  exact ⟨_, t, rfl, List.getElem_mem hi2⟩
theorem c_maxS (hc : X.calm = true) (hu : X.A.units + 64 < cLine) : CallD X (.builtin "max") pMaxS := by
  intro pins s σ H vs us Q I r ⟨B, G, δ, σ', ds, R, rel, b, q, k⟩
  match ds, q with
  | [d], q =>
    cases d with
    | list xs => exact c_max hc pins s σ H vs us Q I r ⟨B, G, δ, σ', [.list xs], R, rel, b, q, k⟩
    | tuple xs =>
      obtain ⟨v, rfl, bd⟩ := b.one
      obtain ⟨a, ws, rfl, ha, ta⟩ := bor_tup bd
      obtain ⟨ns, rfl, q1, q⟩ := q
      obtain rfl := ta.toInts
      obtain ⟨u, rfl, ru⟩ := vals1 r
      cases ru
      obtain ⟨its, rv, p, hz⟩ := I.tuple (sqT_mono rel.sg ha)
      obtain ⟨as, ra⟩ := rdNs_reads (DnL.rdN I (ns.map PyData.int) (noOL_ints _) (ta.mono rel.sg) rv)
      match ns, q1 with
      | n :: ns, _ =>
        refine W.max_tuple_data (vs := its.toArray) (x := .int n) (xs := ns.map PyData.int) (as := as) (I.ok.hd hc) p (by simpa using ra) (alike_ints (n :: ns)) ?_ fun i v h' tk bs hi hr hk => ?_
        · have := depth_ints (n :: ns)
          rw [List.map_cons] at this
          rw [this]; omega
        · obtain ⟨m, t, rfl, hm⟩ := int_at rv (by simpa using hi)
          rw [W.maxD_ints] at hr
          have e := reads_int hr rfl
          cases e
          have := foldl_max_mem n ns
          exact ⟨.int _, H, I.kept hk, ⟨_, rfl⟩, k _ H G _ (q _ this.1 this.2) (Same.refl _) rel (Dn.int _)⟩
    | _ => exact False.elim q
theorem c_minS (hc : X.calm = true) (hu : X.A.units + 64 < cLine) : CallD X (.builtin "min") pMinS := by
  intro pins s σ H vs us Q I r ⟨B, G, δ, σ', ds, R, rel, b, q, k⟩
  match ds, q with
  | [d], q =>
    cases d with
    | list xs => exact c_min hc pins s σ H vs us Q I r ⟨B, G, δ, σ', [.list xs], R, rel, b, q, k⟩
    | tuple xs =>
      obtain ⟨v, rfl, bd⟩ := b.one
      obtain ⟨a, ws, rfl, ha, ta⟩ := bor_tup bd
      obtain ⟨ns, rfl, q1, q⟩ := q
      obtain rfl := ta.toInts
      obtain ⟨u, rfl, ru⟩ := vals1 r
      cases ru
      obtain ⟨its, rv, p, hz⟩ := I.tuple (sqT_mono rel.sg ha)
      obtain ⟨as, ra⟩ := rdNs_reads (DnL.rdN I (ns.map PyData.int) (noOL_ints _) (ta.mono rel.sg) rv)
      match ns, q1 with
      | n :: ns, _ =>
        refine W.min_tuple_data (vs := its.toArray) (x := .int n) (xs := ns.map PyData.int) (as := as) (I.ok.hd hc) p (by simpa using ra) (alike_ints (n :: ns)) ?_ fun i v h' tk bs hi hr hk => ?_
        · have := depth_ints (n :: ns)
          rw [List.map_cons] at this
          rw [this]; omega
        · obtain ⟨m, t, rfl, hm⟩ := int_at rv (by simpa using hi)
          rw [W.minD_ints] at hr
          have e := reads_int hr rfl
          cases e
          have := foldl_min_mem n ns
          exact ⟨.int _, H, I.kept hk, ⟨_, rfl⟩, k _ H G _ (q _ this.1 this.2) (Same.refl _) rel (Dn.int _)⟩
    | _ => exact False.elim q
end
omit [Tb] in
@[simp ↓] theorem pMaxS_l (ds : List PyData) (R : PyData → Prop) : pMaxS [.list ds] R = onIs ds (fun ns => 0 < ns.length ∧ ∀ m, m ∈ ns → (∀ y ∈ ns, y ≤ m) → R (.int m)) .mk := rfl
omit [Tb] in
@[simp ↓] theorem pMinS_l (ds : List PyData) (R : PyData → Prop) : pMinS [.list ds] R = onIs ds (fun ns => 0 < ns.length ∧ ∀ m, m ∈ ns → (∀ y ∈ ns, m ≤ y) → R (.int m)) .mk := rfl
omit [Tb] in
@[simp ↓] theorem pMaxS_t (ds : List PyData) (R : PyData → Prop) : pMaxS [.tuple ds] R = onIs ds (fun ns => 0 < ns.length ∧ ∀ m, m ∈ ns → (∀ y ∈ ns, y ≤ m) → R (.int m)) .mk := rfl
omit [Tb] in
@[simp ↓] theorem pMinS_t (ds : List PyData) (R : PyData → Prop) : pMinS [.tuple ds] R = onIs ds (fun ns => 0 < ns.length ∧ ∀ m, m ∈ ns → (∀ y ∈ ns, m ≤ y) → R (.int m)) .mk := rfl
end DL
set_option Elab.async false
set_option linter.all false
set_option maxRecDepth 100000
set_option maxHeartbeats 4000000
namespace DL
open PySem PySem.Spec PyProof.Rows L2
variable [Tb]
section
variable {X : Cx} {pos : Pos} {i : Nat}
end
def endsM (i : Nat) (cs : List Cell) (R : Cell → List Cell → Prop) : DEnds := { nx := fun δ => sameIo cs δ ∧ cs.length ≤ i ∧ ∃ a xs, δ[i]? = some (.ol a xs) ∧ R (.ol a xs) (outC cs δ), rt := fun _ _ => False }
section
variable {P : Program} {w : World} {K : PySem.W.Frag} {mg : Str → Option Value} {base : Heap}
end
def wLstRg1 (w : DE) : DL := fun δ R => w δ fun o δ1 => use o δ1 fun x => asI x (fun n => -1000000 ≤ n ∧ n ≤ 1000000 ∧ R (nums 0 n.toNat) δ1) .mk
def wLstRg2 (w u : DE) : DL := fun δ R => w δ fun o δ1 => u δ1 fun o2 δ2 => use o δ2 fun x => use o2 δ2 fun y => asI x (fun m => asI y (fun n => (-1000000 ≤ m ∧ m ≤ 1000000 ∧ -1000000 ≤ n ∧ n ≤ 1000000) ∧ R (nums m (n - m).toNat) δ2) .mk) .mk
omit [Tb] in
@[simp ↓] theorem wLstRg1_ap (w : DE) (δ : DS) (R : List PyData → DS → Prop) : wLstRg1 w δ R = (w δ fun o δ1 => use o δ1 fun x => asI x (fun n => -1000000 ≤ n ∧ n ≤ 1000000 ∧ R (nums 0 n.toNat) δ1) .mk) := rfl
omit [Tb] in
@[simp ↓] theorem wLstRg2_ap (w u : DE) (δ : DS) (R : List PyData → DS → Prop) : wLstRg2 w u δ R = (w δ fun o δ1 => u δ1 fun o2 δ2 => use o δ2 fun x => use o2 δ2 fun y => asI x (fun m => asI y (fun n => (-1000000 ≤ m ∧ m ≤ 1000000 ∧ -1000000 ≤ n ∧ n ≤ 1000000) ∧ R (nums m (n - m).toNat) δ2) .mk) .mk) := rfl
section
variable {X : Cx} {pos : Pos}
def wPopA (i : Nat) (w : DE) : DE := fun δ R => isOl δ i ∧ w δ fun o δ1 => use o δ1 fun z => asI z (fun j => olC δ1[i]? (fun a xs => 0 ≤ j ∧ j < xs.length ∧ xs.length ≤ 1000000 ∧ onS xs[j.toNat]? (fun y => R (.d y) (δ1.set i (.ol a (xs.eraseIdx j.toNat)))) .mk) .mk) .mk
omit [Tb] in
@[simp ↓] theorem wPopA_ap (i : Nat) (w : DE) (δ : DS) (R : Opd → DS → Prop) : wPopA i w δ R = (isOl δ i ∧ w δ fun o δ1 => use o δ1 fun z => asI z (fun j => olC δ1[i]? (fun a xs => 0 ≤ j ∧ j < xs.length ∧ xs.length ≤ 1000000 ∧ onS xs[j.toNat]? (fun y => R (.d y) (δ1.set i (.ol a (xs.eraseIdx j.toNat)))) .mk) .mk) .mk) := rfl
end
def lsC (x : PyData) (k : List PyData → Prop) (_u : Stop k) : Prop := match x with
  | .list xs => k xs
  | _ => False
omit [Tb] in
@[simp ↓] theorem lsC_l (xs : List PyData) (k : List PyData → Prop) (u : Stop k) : lsC (.list xs) k u = k xs := rfl
def ixOf (ds : List PyData) (y : PyData) : Option Nat := ds.findIdx? fun z => PyData.eqv z y
def wIndex (w u : DE) : DE := fun δ R => w δ fun o δ1 => use o δ1 fun x => lsC x (fun _ => u δ1 fun o2 δ2 => use o δ2 fun x2 => use o2 δ2 fun y => lsC x2 (fun ds => SeqAt.shaped (.list ds) = true ∧ SeqAt.shaped y = true ∧ onS (ixOf ds y) (fun j => R (.d (.int (j : Nat))) δ2) .mk) .mk) .mk
omit [Tb] in
@[simp ↓] theorem wIndex_ap (w u : DE) (δ : DS) (R : Opd → DS → Prop) : wIndex w u δ R = (w δ fun o δ1 => use o δ1 fun x => lsC x (fun _ => u δ1 fun o2 δ2 => use o δ2 fun x2 => use o2 δ2 fun y => lsC x2 (fun ds => SeqAt.shaped (.list ds) = true ∧ SeqAt.shaped y = true ∧ onS (ixOf ds y) (fun j => R (.d (.int (j : Nat))) δ2) .mk) .mk) .mk) := rfl
section
variable {X : Cx} {pos : Pos}
end
end DL
set_option Elab.async false
set_option linter.all false
set_option maxRecDepth 100000
set_option maxHeartbeats 4000000
namespace DL
open PySem PySem.Spec PyProof.Rows L2
variable [Tb]
variable {g : DTG} {t : DT} {e : DE} {vs : List Nat} {xs : List PyData} {δ : DS}
end DL
set_option Elab.async false
set_option linter.all false
set_option maxRecDepth 100000
set_option maxHeartbeats 4000000
namespace DL
open PySem PySem.Spec PyProof.Rows L2
variable [Tb]
mutual
theorem eq_of_eqv : ∀ (x y : PyData), W.alike x y = true → PyData.eqv x y = true → x = y
  | .none, y, h, e => by cases y <;> simp [W.alike] at h ⊢
  | .bool a, y, h, e => by cases y <;> simp [W.alike, PyData.eqv] at h e ⊢; exact e
  | .int a, y, h, e => by cases y <;> simp [W.alike, PyData.eqv] at h e ⊢; exact e
  | .str a, y, h, e => by cases y <;> simp [W.alike, PyData.eqv] at h e ⊢; exact e
  | .list xs, y, h, e => by
    cases y with
    | list ys => rw [eq_of_eqvAll xs ys (by simpa [W.alike] using h) (by simpa [PyData.eqv] using e)]
    | _ => simp [W.alike] at h
  | .tuple xs, y, h, e => by
    cases y with
    | tuple ys => rw [eq_of_eqvAll xs ys (by simpa [W.alike] using h) (by simpa [PyData.eqv] using e)]
    | _ => simp [W.alike] at h
  | .dict xs, y, h, e => by cases y <;> simp [W.alike] at h
theorem eq_of_eqvAll : ∀ (xs ys : List PyData), W.alikeAll xs ys = true → PyData.eqvAll xs ys = true → xs = ys
  | [], ys, h, e => by cases ys <;> simp [PyData.eqvAll] at e ⊢
  | x :: xs, ys, h, e => by
    cases ys with
    | nil => simp [PyData.eqvAll] at e
    | cons y ys =>
      rw [W.alikeAll, Bool.and_eq_true] at h
      rw [PyData.eqvAll, Bool.and_eq_true] at e
      rw [eq_of_eqv x y h.1 e.1, eq_of_eqvAll xs ys h.2 e.2]
end
theorem leD_eq (x y : PyData) : leD x y = !W.dataLt y x := rfl
theorem leD_trans (a b c : PyData) (h1 : leD a b = true) (h2 : leD b c = true) : leD a c = true := by
  rw [leD_eq] at *
  simp only [Bool.not_eq_true'] at *
  cases h : W.dataLt c a with
  | false => rfl
  | true =>
    rcases lex_negTrans (O := itemOrd) (W.keyToks c) (W.keyToks b) (W.keyToks a) h with q | q
    · have : W.dataLt c b = true := q
      rw [h2] at this; cases this
    · have : W.dataLt b a = true := q
      rw [h1] at this; cases this
theorem leD_total (a b : PyData) : (leD a b || leD b a) = true := by
  rw [leD_eq, leD_eq]
  cases h1 : W.dataLt b a <;> cases h2 : W.dataLt a b <;> try rfl
  have := lex_trans (O := itemOrd) _ _ _ h1 h2
  rw [lex_irrefl] at this; cases this
theorem leD_anti {a b : PyData} (h : W.alike a b = true) (h1 : leD a b = true) (h2 : leD b a = true) : a = b := by
  rw [leD_eq] at h1 h2
  simp only [Bool.not_eq_true'] at h1 h2
  have e := lex_total (O := itemOrd) _ _ h1 h2
  refine eq_of_eqv a b h ?_
  cases q : PyData.eqv a b with
  | true => rfl
  | false =>
    have := (W.toks_eqv a b h).2 q [] [.inl 5]
    rw [List.append_nil, e] at this
    have p := W.lex_pre (W.keyToks a) [] [.inl 5]
    rw [List.append_nil] at p
    rw [p, lex_irrefl] at this
    cases this
theorem sort_pw (ds : List PyData) : (sortD ds).Pairwise fun a b => leD a b = true := List.pairwise_mergeSort leD_trans leD_total ds
theorem sort_perm {xs ys : List PyData} (ha : W.AllAlike xs) (h : xs.Perm ys) : sortD xs = sortD ys := by
  have p1 : (sortD xs).Perm xs := List.mergeSort_perm _ _
  have p2 : (sortD ys).Perm ys := List.mergeSort_perm _ _
  refine List.Perm.eq_of_pairwise (le := fun a b => leD a b = true) (fun a b ma mb l1 l2 => ?_) (sort_pw xs) (sort_pw ys) (p1.trans (h.trans p2.symm))
  exact leD_anti (ha _ (p1.mem_iff.mp ma) _ (h.mem_iff.mpr (p2.mem_iff.mp mb))) l1 l2
end DL
set_option Elab.async false
set_option linter.all false
set_option maxRecDepth 100000
set_option maxHeartbeats 4000000
namespace DL
open PySem PySem.Spec PyProof.Rows L2
variable [Tb]
inductive Pt
  | val (d : PyData)
  | cap (i : Nat)
def eachM : List Pt → List PyData → (Option (List (Nat × PyData)) → Prop) → Prop
  | [], [], k => k (some [])
  | .val d :: ps, x :: xs, k => pEq x d fun z => ∃ b, z = .bool b ∧ if b = true then eachM ps xs k else k none
  | .cap i :: ps, x :: xs, k => eachM ps xs fun o => match o with
    | none => k none
    | some bs => k (some ((i, x) :: bs))
  | _, _, _ => False
def setsD (δ : DS) : List (Nat × PyData) → DS
  | [] => δ
  | (i, x) :: r => setsD (δ.set i (.d x)) r
inductive Ct
  | seq (ps : List Pt) (b : DTS)
  | wild (b : DTS)
def caseM : List Ct → List PyData → DTS
  | [], _, E, δ => E.nx δ
  | .wild b :: _, _, E, δ => b E δ
  | .seq ps b :: cs, xs, E, δ => if xs.length = ps.length then eachM ps xs fun o => match o with
      | none => caseM cs xs E δ
      | some bs => b E (setsD δ bs)
    else caseM cs xs E δ
def tpC (x : PyData) (k : List PyData → Prop) (_u : Stop k) : Prop := match x with
  | .tuple xs => k xs
  | _ => False
omit [Tb] in
@[simp ↓] theorem tpC_t (xs : List PyData) (k : List PyData → Prop) (u : Stop k) : tpC (.tuple xs) k u = k xs := rfl
def wMatch (w : DE) (cs : List Ct) : DTS := fun E δ => w δ fun o δ1 => lk o δ1 fun x δ2 => tpC x (fun xs => xs.length ≤ 1000000 ∧ caseM cs xs E δ2) .mk
omit [Tb] in
@[simp ↓] theorem wMatch_ap (w : DE) (cs : List Ct) (E : DEnds) (δ : DS) : wMatch w cs E δ = (w δ fun o δ1 => lk o δ1 fun x δ2 => tpC x (fun xs => xs.length ≤ 1000000 ∧ caseM cs xs E δ2) .mk) := rfl
omit [Tb] in
@[simp ↓] theorem eachM_nil (k : Option (List (Nat × PyData)) → Prop) : eachM [] [] k = k (some []) := rfl
omit [Tb] in
@[simp ↓] theorem eachM_val (d x : PyData) (ps : List Pt) (xs : List PyData) (k : Option (List (Nat × PyData)) → Prop) : eachM (.val d :: ps) (x :: xs) k = (pEq x d fun z => ∃ b, z = .bool b ∧ if b = true then eachM ps xs k else k none) := rfl
omit [Tb] in
@[simp ↓] theorem eachM_cap (i : Nat) (x : PyData) (ps : List Pt) (xs : List PyData) (k : Option (List (Nat × PyData)) → Prop) : eachM (.cap i :: ps) (x :: xs) k = (eachM ps xs fun o => match o with
    | none => k none
    | some bs => k (some ((i, x) :: bs))) := rfl
omit [Tb] in
@[simp ↓] theorem caseM_nil (xs : List PyData) (E : DEnds) (δ : DS) : caseM [] xs E δ = E.nx δ := rfl
omit [Tb] in
@[simp ↓] theorem caseM_wild (b : DTS) (cs : List Ct) (xs : List PyData) (E : DEnds) (δ : DS) : caseM (.wild b :: cs) xs E δ = b E δ := rfl
omit [Tb] in
@[simp ↓] theorem caseM_seq (ps : List Pt) (b : DTS) (cs : List Ct) (xs : List PyData) (E : DEnds) (δ : DS) : caseM (.seq ps b :: cs) xs E δ = (if xs.length = ps.length then eachM ps xs fun o => match o with
      | none => caseM cs xs E δ
      | some bs => b E (setsD δ bs)
    else caseM cs xs E δ) := rfl
omit [Tb] in
@[simp ↓] theorem setsD_nil (δ : DS) : setsD δ [] = δ := rfl
omit [Tb] in
@[simp ↓] theorem setsD_cons (δ : DS) (i : Nat) (x : PyData) (r : List (Nat × PyData)) : setsD δ ((i, x) :: r) = setsD (δ.set i (.d x)) r := rfl
inductive PtOk (X : Cx) : List Pattern → List Pt → Prop
  | nil : PtOk X [] []
  | val {e : Expr} {v : V} {d : PyData} {pos : Pos} {ps : List Pattern} {qs : List Pt} (h : PE X e (tC v)) (hv : ∀ K G, Dn K G v d) (t : PtOk X ps qs) : PtOk X (.MatchValue e pos :: ps) (.val d :: qs)
  | cap {x : Str} {i : Nat} {pos : Pos} {ps : List Pattern} {qs : List Pt} (hi : X.N[i]? = some x) (hx : Loc X.env.scope x) (hf : X.fn x = true ∨ X.env.scope.names.lookup x = some .local) (t : PtOk X ps qs) : PtOk X (.MatchAs none (some x) pos :: ps) (.cap i :: qs)
theorem PtOk.len {X : Cx} {ps : List Pattern} {qs : List Pt} (h : PtOk X ps qs) : ps.length = qs.length := by
  induction h with
  | nil => rfl
  | val _ _ _ ih => simp [ih]
  | cap _ _ _ _ ih => simp [ih]
inductive BsOk (X : Cx) (G : Hp) : List (Str × Value) → List (Nat × PyData) → Prop
  | nil : BsOk X G [] []
  | cons {x : Str} {u : Value} {v : V} {i : Nat} {d : PyData} {bs : List (Str × Value)} {os : List (Nat × PyData)} (hi : X.N[i]? = some x) (hx : Loc X.env.scope x) (hf : X.fn x = true ∨ X.env.scope.names.lookup x = some .local) (r : RelV v u) (h : Dn X.K G v d) (t : BsOk X G bs os) : BsOk X G ((x, u) :: bs) ((i, d) :: os)
inductive RoOk (X : Cx) (G : Hp) : Option (List (Str × Value)) → Option (List (Nat × PyData)) → Prop
  | none : RoOk X G none none
  | some {bs : List (Str × Value)} {os : List (Nat × PyData)} (h : BsOk X G bs os) : RoOk X G (some bs) (some os)
section
variable {X : Cx}
inductive CsOk (X : Cx) : List MatchCase → List Ct → Prop
  | nil : CsOk X [] []
  | wild {body : List Stmt} {b : DTS} {pos : Pos} {rest : List MatchCase} {ws : List Ct} (hb : JSs X body b) : CsOk X (⟨.MatchAs none none pos, none, body⟩ :: rest) (.wild b :: ws)
  | seq {ps : List Pattern} {qs : List Pt} {pos : Pos} {body : List Stmt} {b : DTS} {rest : List MatchCase} {ws : List Ct} (h : PtOk X ps qs) (hstar : ps.findIdx? (·.isStar) = none) (hwild : (ps.all fun p => p.isWildcard || (p.isStar && p.names.isEmpty)) = false) (hb : JSs X body b) (t : CsOk X rest ws) : CsOk X (⟨.MatchSequence ps pos, none, body⟩ :: rest) (.seq qs b :: ws)
theorem PtOk.str {x : Str} {j : Nat} {p pos : Pos} {ps : List Pattern} {qs : List Pt} (t : PtOk X ps qs) : PtOk X (.MatchValue (.Constant (.str x) j p) pos :: ps) (.val (.str x) :: qs) := .val pe_str (fun _ _ => .str x) t
theorem PtOk.int {x : Int} {j : Nat} {p pos : Pos} {ps : List Pattern} {qs : List Pt} (t : PtOk X ps qs) : PtOk X (.MatchValue (.Constant (.int x) j p) pos :: ps) (.val (.int x) :: qs) := .val pe_int (fun _ _ => .int x) t
end
end DL
namespace DL
open PySem PySem.Spec PyProof.Rows L2
variable [Tb]
end DL
set_option Elab.async false
set_option linter.all false
set_option maxRecDepth 100000
set_option maxHeartbeats 4000000
namespace DL
open PySem PySem.Spec PyProof.Rows L2
variable [Tb]
def wPar4 (i j k l : Nat) (w : DMs) : DTS := fun E δ => w δ fun cs δ1 => ∃ c d e f, cs = [c, d, e, f] ∧ E.nx ((((δ1.set i c).set j d).set k e).set l f)
omit [Tb] in
@[simp ↓] theorem wPar4_ap (i j k l : Nat) (w : DMs) (E : DEnds) (δ : DS) : wPar4 i j k l w E δ = (w δ fun cs δ1 => match cs with
  | [c, d, e, f] => E.nx ((((δ1.set i c).set j d).set k e).set l f)
  | _ => False) := by
  unfold wPar4
  congr 1; funext cs δ1
  match cs with
  | [] => simp
  | [c] => simp
  | [c, d] => simp
  | [c, d, e] => simp
  | [c, d, e, f] => exact propext ⟨fun ⟨c', d', e', f', h0, h⟩ => by cases h0; exact h, fun h => ⟨c, d, e, f, rfl, h⟩⟩
  | c :: d :: e :: f :: g :: r => simp
section
variable {X : Cx} {pos : Pos}
end
end DL
set_option Elab.async false
set_option linter.all false
set_option maxRecDepth 100000
set_option maxHeartbeats 4000000
namespace DL
open PySem PySem.Spec PyProof.Rows L2
variable [Tb]
section
variable {X : Cx} {pos : Pos}
end
end DL
set_option Elab.async false
set_option linter.all false
set_option maxRecDepth 100000
set_option maxHeartbeats 4000000
namespace DL
open PySem PySem.Spec PyProof.Rows L2
variable [Tb]
section
variable {X : Cx}
def pMulW : P2 := fun x y R => match x, y with
  | .tuple xs, .int k => (0 < xs.length ∧ xs.length ≤ 10 ∧ 2 ≤ k ∧ k ≤ 100000) ∧ R (.tuple (List.replicate k.toNat xs).flatten)
  | _, _ => False
omit [Tb] in
@[simp ↓] theorem pMulW_ti (xs : List PyData) (k : Int) (R : PyData → Prop) : pMulW (.tuple xs) (.int k) R = ((0 < xs.length ∧ xs.length ≤ 10 ∧ 2 ≤ k ∧ k ≤ 100000) ∧ R (.tuple (List.replicate k.toNat xs).flatten)) := rfl
end
end DL
set_option Elab.async false
set_option linter.all false
set_option maxRecDepth 100000
set_option maxHeartbeats 4000000
namespace DL
open PySem PySem.Spec PyProof.Rows L2
variable [Tb]
section
variable {X : Cx} {nm : Option Str} {e : Expr} {kws : List Keyword} {kpos : Pos}
end
/-- in the parameters' order -/
def permO {α : Type} (z : α) (ix : List Nat) (os : List α) : List α := ix.map fun i => os.getD i z
def KB0 (K : PySem.W.Frag) (fd : FuncData) (ps ks : List Str) (ix : List Nat) : Prop :=
  ∀ (s : Shared) (ws : List Value), K.In s.heap → ws.length = ks.length → BindsTo s fd ⟨[], ks.zip ws⟩ (ps.zip (permO Value.none ix ws))
theorem KB0.of {K : PySem.W.Frag} {fd : FuncData} {ps ks : List Str} {ix : List Nat} (h : ∀ ws : List Value, ws.length = ks.length → bindArgs fd ⟨[], ks.zip ws⟩ = pure (ps.zip (permO Value.none ix ws))) : KB0 K fd ps ks ix := fun s ws _ hl => .of_eq (h ws hl)
theorem Fun.kb {K : PySem.W.Frag} {x qual : Str} {st : Stmt} {f : Addr} {fd : FuncData} {ps ks : List Str} {ix : List Nat} (F : Fun K x qual st f fd)
    (h : ∀ (kV doc pm : Value) (an : Option Addr) (cdv ct : Value) (ws : List Value), ws.length = ks.length → bindArgs (PySem.W.fnOf x qual (defArgs st) (defBody st) (defScope st) .none kV doc pm an cdv ct) ⟨[], ks.zip ws⟩ = pure (ps.zip (permO Value.none ix ws))) : KB0 K fd ps ks ix := by
  obtain ⟨oc, od, kV, doc, pm, an, cdv, ct, osl, rfl, lk, hcd⟩ := F.ex
  exact .of (h kV doc pm an cdv ct)
def wCallK (n : Nat) (ix : List Nat) (sp : DSp) (w : DA) : DE := fun δ R => w δ fun os δ1 => lkM [] os δ1 fun os' δ2 => (os'.length = n ∧ ∀ i ∈ ix, i < n) ∧ (slotsOf (permO (.d .none) ix os')).Nodup ∧ sp ((permO (.d .none) ix os').map (cellOf δ2)) fun x cs => R (.d x) (putBack (permO (.d .none) ix os') cs δ2)
section
variable {X : Cx} {CX : CXT} {k : Nat} {f : Addr} {fd : FuncData} {ps ks : List Str} {x : Str} {p pos : Pos} {kws : List Keyword} {ix : List Nat}
end
omit [Tb] in
@[simp ↓] theorem wCallK_ap (n : Nat) (ix : List Nat) (sp : DSp) (w : DA) (δ : DS) (R : Opd → DS → Prop) : wCallK n ix sp w δ R = (w δ fun os δ1 => lkM [] os δ1 fun os' δ2 => (os'.length = n ∧ ∀ i ∈ ix, i < n) ∧ (slotsOf (permO (.d .none) ix os')).Nodup ∧ ask sp ((permO (.d .none) ix os').map (cellOf δ2)) (fun x cs => R (.d x) (putBack (permO (.d .none) ix os') cs δ2)) .mk) := rfl
omit [Tb] in
@[simp ↓] theorem permO_nil {α : Type} (z : α) (os : List α) : permO z [] os = [] := rfl
omit [Tb] in
@[simp ↓] theorem permO_cons {α : Type} (z : α) (i : Nat) (ix : List Nat) (os : List α) : permO z (i :: ix) os = os.getD i z :: permO z ix os := rfl
end DL
set_option Elab.async false
set_option linter.all false
set_option maxRecDepth 100000
set_option maxHeartbeats 4000000
namespace DL
open PySem PySem.Spec PyProof.Rows L2
variable [Tb]
abbrev KVs := List (List Int × PyData)
def valD (kvs : KVs) (k : List Int) : Option PyData := (kvs.find? fun p => decide (p.1 = k)).map (·.2)
def putD (kvs : KVs) (k : List Int) (x : PyData) : KVs := if (kvs.any fun p => decide (p.1 = k)) = true then kvs.map (fun p => if p.1 = k then (p.1, x) else p) else kvs ++ [(k, x)]
theorem keyI_inj : ∀ {a b : List Int}, keyI a = keyI b → a = b
  | [], [], _ => rfl
  | [], _ :: _, h => by simp [keyI] at h
  | _ :: _, [], h => by simp [keyI] at h
  | x :: a, y :: b, h => by
    have h : (Sum.inl x : Key) :: keyI a = (Sum.inl y : Key) :: keyI b := h
    obtain ⟨h1, h2⟩ := List.cons.inj h
    rw [keyI_inj h2, Sum.inl.inj h1]
theorem keyI_V (ns : List Int) : (keyI ns).map kV = ns.map V.int := by
  unfold keyI
  rw [List.map_map]
  rfl
section
variable {K : PySem.W.Frag} {G : Hp}
theorem DnK.nil : DnK K G [] [] := ⟨rfl, .nil⟩
theorem DnK.cons {w : List Key × V} {ws : List (List Key × V)} {p : List Int × PyData} {kvs : KVs} (h1 : w.1 = keyI p.1) (h2 : Dn K G w.2 p.2) (t : DnK K G ws kvs) : DnK K G (w :: ws) (p :: kvs) := ⟨by rw [List.map_cons, List.map_cons, h1, t.1], .cons h2 t.2⟩
theorem DnK.inv {ws : List (List Key × V)} {p : List Int × PyData} {kvs : KVs} (h : DnK K G ws (p :: kvs)) : ∃ w ws', ws = w :: ws' ∧ w.1 = keyI p.1 ∧ Dn K G w.2 p.2 ∧ DnK K G ws' kvs := by
  obtain ⟨h1, h2⟩ := h
  cases ws with
  | nil => simp at h1
  | cons w ws =>
    rw [List.map_cons, List.map_cons] at h1
    obtain ⟨a, b⟩ := List.cons.inj h1
    cases h2 with
    | cons c d => exact ⟨w, ws, rfl, a, c, b, d⟩
theorem DnK.inv0 {ws : List (List Key × V)} (h : DnK K G ws []) : ws = [] := by
  have := h.1
  cases ws with
  | nil => rfl
  | cons w ws => simp at this
theorem DnK.len : ∀ {kvs : KVs} {ws : List (List Key × V)}, DnK K G ws kvs → ws.length = kvs.length
  | [], ws, h => by rw [h.inv0]; rfl
  | p :: kvs, ws, h => by
    obtain ⟨w, ws', rfl, _, _, t⟩ := h.inv
    rw [List.length_cons, List.length_cons, t.len]
theorem DnK.mono {G' : Hp} {kvs : KVs} {ws : List (List Key × V)} (h : DnK K G ws kvs) (s : Same G G') : DnK K G' ws kvs := ⟨h.1, h.2.mono s⟩
theorem DnK.val (k : List Int) : ∀ {kvs : KVs} {ws : List (List Key × V)}, DnK K G ws kvs → (valD kvs k = none ∧ valV ws (keyI k) = none) ∨ ∃ x v, valD kvs k = some x ∧ valV ws (keyI k) = some v ∧ Dn K G v x
  | [], ws, h => by rw [h.inv0]; exact .inl ⟨rfl, rfl⟩
  | p :: kvs, ws, h => by
    obtain ⟨w, ws', rfl, e, d, t⟩ := h.inv
    by_cases q : p.1 = k
    · refine .inr ⟨p.2, w.2, by simp [valD, q], ?_, d⟩
      exact valV_pos (by rw [e, q])
    · have q2 : ¬ w.1 = keyI k := fun z => q (keyI_inj (e.symm.trans z))
      have v1 : valD (p :: kvs) k = valD kvs k := by simp [valD, q]
      rw [v1, valV_neg q2]
      exact t.val k
theorem DnK.snoc {k : List Int} {v : V} {x : PyData} (d : Dn K G v x) : ∀ {kvs : KVs} {ws : List (List Key × V)}, DnK K G ws kvs → DnK K G (ws ++ [(keyI k, v)]) (kvs ++ [(k, x)])
  | [], ws, h => by rw [h.inv0]; exact .cons rfl d .nil
  | p :: kvs, ws, h => by
    obtain ⟨w, ws', rfl, e, d', t⟩ := h.inv
    exact .cons e d' (t.snoc d)
theorem DnK.repl {k : List Int} {v : V} {x : PyData} (d : Dn K G v x) : ∀ {kvs : KVs} {ws : List (List Key × V)}, DnK K G ws kvs → DnK K G (ws.map fun w => if w.1 = keyI k then (w.1, v) else w) (kvs.map fun p => if p.1 = k then (p.1, x) else p)
  | [], ws, h => by rw [h.inv0]; exact .nil
  | p :: kvs, ws, h => by
    obtain ⟨w, ws', rfl, e, d', t⟩ := h.inv
    rw [List.map_cons, List.map_cons]
    refine .cons ?_ ?_ (t.repl d)
    · by_cases q : p.1 = k
      · rw [if_pos (by rw [e, q]), if_pos q]; exact e
      · rw [if_neg fun z => q (keyI_inj (e.symm.trans z)), if_neg q]; exact e
    · by_cases q : p.1 = k
      · rw [if_pos (by rw [e, q]), if_pos q]; exact d
      · rw [if_neg fun z => q (keyI_inj (e.symm.trans z)), if_neg q]; exact d'
theorem DnK.any (k : List Int) : ∀ {kvs : KVs} {ws : List (List Key × V)}, DnK K G ws kvs → (ws.any fun w => decide (w.1 = keyI k)) = kvs.any fun p => decide (p.1 = k)
  | [], ws, h => by rw [h.inv0]; rfl
  | p :: kvs, ws, h => by
    obtain ⟨w, ws', rfl, e, _, t⟩ := h.inv
    rw [List.any_cons, List.any_cons, t.any k]
    congr 1
    rw [decide_eq_decide, e]
    exact ⟨keyI_inj, fun q => by rw [q]⟩
theorem DnK.put {k : List Int} {v : V} {x : PyData} {kvs : KVs} {ws : List (List Key × V)} (h : DnK K G ws kvs) (d : Dn K G v x) : DnK K G (putK ws (keyI k) v) (putD kvs k x) := by
  unfold putK putD
  rw [h.any k]
  split
  · exact h.repl d
  · exact h.snoc d
end
def keyOf (x : PyData) (k : List Int → Prop) (_u : Stop k) : Prop := ∃ ns : List Int, x = .tuple (ns.map PyData.int) ∧ ns ≠ [] ∧ k ns
omit [Tb] in
@[simp ↓] theorem keyOf_t (ns : List Int) (k : List Int → Prop) (u : Stop k) : keyOf (.tuple (ns.map PyData.int)) k u = (ns ≠ [] ∧ k ns) :=
  propext ⟨fun ⟨ms, e, h⟩ => by rw [map_int_inj (PyData.tuple.inj e)]; exact h, fun h => ⟨ns, rfl, h⟩⟩
def odC (o : Option Cell) (k : Addr → KVs → Prop) (_u : Stop k) : Prop := ∃ a kvs, o = some (.od a kvs) ∧ k a kvs
omit [Tb] in
@[simp ↓] theorem odC_od (a : Addr) (kvs : KVs) (k : Addr → KVs → Prop) (u : Stop k) : odC (some (.od a kvs)) k u = k a kvs :=
  propext ⟨fun ⟨b, ks, e, h⟩ => by cases e; exact h, fun h => ⟨a, kvs, rfl, h⟩⟩
def isOd (δ : DS) (i : Nat) : Prop := ∃ a kvs, δ[i]? = some (.od a kvs)
section
variable {X : Cx} {e f : Expr} {pos pos' px : Pos} {x : Str} {i : Nat}
/-- {} -/
def mD : DM := fun δ R => ∀ a, R (.od a []) δ
theorem jm_dict : JM X (.Dict [] [] pos) mD := pe_le pe_dnewT fun pins s σ H Q I ⟨B, G, δ, R, rel, hw, k⟩ p np => by
  have e : bov B (upd H p (.dT [])) [p] = upd B p (.dT []) := by
    funext b
    unfold bov upd
    by_cases hb : b = p
    · subst hb; simp
    · simp [hb]
  exact k (.ref p) _ G (.od p []) δ (hw p) (Same.refl _) (by show Rel X.K (bov B (upd H p (.dT [])) [p]) G δ σ _; rw [e]; exact rel.growB np) (fun b m => by rw [List.mem_singleton.mp m]; exact rel.freeB np) ⟨rfl, [], upd_same, .nil⟩
theorem key_at {K : PySem.W.Frag} {B G H : Hp} {δ : DS} {σ : L2.St} {v : V} {ns : List Int} (rel : Rel K B G δ σ H) (b : Bor K G H v (.tuple (ns.map PyData.int))) (n0 : ns ≠ []) : ∃ q, v = .ref q ∧ H q = some (.tup ((keyI ns).map kV)) := by
  obtain ⟨q, vs, rfl, hq, t⟩ := bor_tupS b
  have := t.toInts
  subst this
  have nv : numsV (ns.map V.int) = true := by
    cases ns with
    | nil => exact absurd rfl n0
    | cons i is => simp [numsV]
  exact ⟨q, rfl, by rw [keyI_V]; exact rel.sg _ _ (hq.key nv)⟩
def wDIn (i : Nat) (w : DE) : DE := fun δ R => w δ fun o δ1 => use o δ1 fun x => keyOf x (fun k => odC δ1[i]? (fun _ kvs => R (.d (.bool (valD kvs k).isSome)) δ1) .mk) .mk
def wDNotIn (i : Nat) (w : DE) : DE := fun δ R => w δ fun o δ1 => use o δ1 fun x => keyOf x (fun k => odC δ1[i]? (fun _ kvs => R (.d (.bool (!(valD kvs k).isSome))) δ1) .mk) .mk
/-- d[k] -/
def wDGet (i : Nat) (w : DE) : DE := fun δ R => isOd δ i ∧ w δ fun o δ1 => use o δ1 fun x => keyOf x (fun k => odC δ1[i]? (fun _ kvs => onS (valD kvs k) (fun y => R (.d y) δ1) .mk) .mk) .mk
theorem je_dget (hu : X.A.units + 64 < cLine) {w : DE} (he : JE X e w) (hx : PE X (.Name x px) (tVar i)) (hs : NoSl e := by exact fun _ _ => rfl) : JE X (.Subscript (.Name x px) e pos) (wDGet i w) :=
  pe_le (pe_dget (Nat.lt_of_le_of_lt (Nat.add_le_add_left (by decide : 1 ≤ 64) _) hu) hx he hs) fun pins s σ H Q I ⟨B, G, δ, R, rel, ⟨⟨a0, k0, h0⟩, hw⟩, k⟩ => by
    obtain ⟨o0, hσ0, rfl, _⟩ := rel.at h0
    refine ⟨.ref a0, hσ0, B, G, δ, _, rel, hw, fun v H1 G1 o δ1 r1 s1 rel1 ok1 => ?_⟩
    obtain ⟨y, ⟨ns, rfl, n0, a, kvs, hδ, q⟩, b1⟩ := use_ok rel1 ok1 r1
    obtain ⟨p, rfl, hp⟩ := key_at rel1 b1 n0
    obtain ⟨o', hσ, rfl, ws, ha, dk⟩ := rel1.at hδ
    rw [hσ] at hσ0; cases hσ0
    rcases dk.val ns with ⟨q1, q2⟩ | ⟨x, v, q1, q2, dn⟩
    · rw [q1] at q
      exact False.elim (by simp [onS] at q)
    · rw [q1] at q
      exact ⟨_, v, rfl, by rw [← q2]; exact DGet.t ha hp, k v H1 G1 (.d x) δ1 (by simpa [onS] using q) s1 rel1 dn⟩
/-- d[k] = v -/
def wDPut (i : Nat) (wk wv : DE) : DTS := fun E δ => isOd δ i ∧ wv δ fun o δ1 => lk o δ1 fun x δ2 => wk δ2 fun o2 δ3 => use o2 δ3 fun y => keyOf y (fun k => odC δ3[i]? (fun a kvs => kvs.length ≤ 1000000 ∧ E.nx (δ3.set i (.od a (putD kvs k x)))) .mk) .mk
theorem js_dput (hu : X.A.units + 64 < cLine) {wk wv : DE} (hx : PE X (.Name x px) (tVar i)) (hk : JE X e wk) (hv : JE X f wv) (hs : swapsWith f (some (.Subscript (.Name x px) e pos')) pos.line X.env = pure false := by rfl) : JS X (.Assign [.Subscript (.Name x px) e pos'] f pos) (wDPut i wk wv) :=
  ps_le (ps_dput (Nat.lt_of_le_of_lt (Nat.add_le_add_left (by decide : 1 ≤ 64) _) hu) hx hk hv hs) fun pins s σ H D I ⟨B, G, δ, E, rel, ⟨⟨a0, k0, h0⟩, hw⟩, k⟩ => by
    obtain ⟨o0, hσ0, rfl, _⟩ := rel.at h0
    refine ⟨B, G, δ, _, rel, hw, fun v H1 G1 o δ1 r1 s1 rel1 ok1 => ⟨.ref a0, hσ0, ?_⟩⟩
    obtain ⟨G2, δ2, z, q2, s2, rel2, dn⟩ := lk_ok rel1 ok1 r1
    refine ⟨B, G2, δ2, _, rel2, q2, fun y H3 G3 o2 δ3 r3 s3 rel3 ok3 => ?_⟩
    obtain ⟨w, ⟨ns, rfl, n0, a, kvs, hδ, hl, q⟩, b1⟩ := use_ok rel3 ok3 r3
    obtain ⟨p, rfl, hp⟩ := key_at rel3 b1 n0
    obtain ⟨o', hσ, rfl, ws, ha, dk⟩ := rel3.at hδ
    rw [hσ] at hσ0; cases hσ0
    refine ⟨_, _, rfl, DPut.t ha hp (by rw [dk.len, sizeLine_eq]; omega), ?_⟩
    have dn3 := Dn.mono s3 _ dn
    exact k.nx _ _ G3 _ q ((s1.trans s2).trans s3) (rel3.put hδ hσ (by simp [Cell.fp]) rfl ⟨rfl, _, upd_same, dk.put dn3⟩)
end
omit [Tb] in
@[simp ↓] theorem mD_ap (δ : DS) (R : Cell → DS → Prop) : mD δ R = ∀ a, R (.od a []) δ := rfl
omit [Tb] in
@[simp ↓] theorem wDIn_ap (i : Nat) (w : DE) (δ : DS) (R : Opd → DS → Prop) : wDIn i w δ R = (w δ fun o δ1 => use o δ1 fun x => keyOf x (fun k => odC δ1[i]? (fun _ kvs => R (.d (.bool (valD kvs k).isSome)) δ1) .mk) .mk) := rfl
omit [Tb] in
@[simp ↓] theorem wDNotIn_ap (i : Nat) (w : DE) (δ : DS) (R : Opd → DS → Prop) : wDNotIn i w δ R = (w δ fun o δ1 => use o δ1 fun x => keyOf x (fun k => odC δ1[i]? (fun _ kvs => R (.d (.bool (!(valD kvs k).isSome))) δ1) .mk) .mk) := rfl
omit [Tb] in
@[simp ↓] theorem wDGet_ap (i : Nat) (w : DE) (δ : DS) (R : Opd → DS → Prop) : wDGet i w δ R = (isOd δ i ∧ w δ fun o δ1 => use o δ1 fun x => keyOf x (fun k => odC δ1[i]? (fun _ kvs => onS (valD kvs k) (fun y => R (.d y) δ1) .mk) .mk) .mk) := rfl
omit [Tb] in
@[simp ↓] theorem wDPut_ap (i : Nat) (wk wv : DE) (E : DEnds) (δ : DS) : wDPut i wk wv E δ = (isOd δ i ∧ wv δ fun o δ1 => lk o δ1 fun x δ2 => wk δ2 fun o2 δ3 => use o2 δ3 fun y => keyOf y (fun k => odC δ3[i]? (fun a kvs => kvs.length ≤ 1000000 ∧ E.nx (δ3.set i (.od a (putD kvs k x)))) .mk) .mk) := rfl
omit [Tb] in
@[simp ↓] theorem isOd_od (a : Addr) (kvs : KVs) (δ : DS) (i : Nat) (h : δ[i]? = some (.od a kvs)) : isOd δ i = True := eq_true ⟨a, kvs, h⟩
omit [Tb] in
@[simp ↓] theorem varC_od (a : Addr) (kvs : KVs) (i : Nat) (k : Opd → Prop) (u : Stop k) : varC (some (.od a kvs)) i k u = k (.s i) := rfl
omit [Tb] in
@[simp] theorem sameIo_od (a : Addr) (xs : KVs) (cs : List Cell) (e : Cell) (δ : DS) : sameIo (.od a xs :: cs) (e :: δ) = ((∃ ys, e = .od a ys) ∧ sameIo cs δ) := rfl
omit [Tb] in
@[simp] theorem outC_od (a : Addr) (xs : KVs) (cs : List Cell) (e : Cell) (δ : DS) : outC (.od a xs :: cs) (e :: δ) = e :: outC cs δ := rfl
end DL
set_option Elab.async false
set_option linter.all false
set_option maxRecDepth 100000
set_option maxHeartbeats 4000000
namespace DL
open PySem PySem.Spec PyProof.Rows L2
variable [Tb]
def pLtT : P2 := fun x y R => match x, y with
  | .int i, .int j => R (.bool (decide (i < j)))
  | .tuple xs, .tuple ys => (noOL xs = true ∧ noOL ys = true) ∧ W.alike (.tuple xs) (.tuple ys) = true ∧ (PyData.tuple xs).depth ≤ 50 ∧ R (.bool (W.dataLt (.tuple xs) (.tuple ys)))
  | _, _ => False
section
variable {X : Cx}
end
omit [Tb] in
@[simp ↓] theorem pLtT_ii (i j : Int) (R : PyData → Prop) : pLtT (.int i) (.int j) R = R (.bool (decide (i < j))) := rfl
omit [Tb] in
@[simp ↓] theorem pLtT_tt (xs ys : List PyData) (R : PyData → Prop) : pLtT (.tuple xs) (.tuple ys) R = ((noOL xs = true ∧ noOL ys = true) ∧ W.alike (.tuple xs) (.tuple ys) = true ∧ (PyData.tuple xs).depth ≤ 50 ∧ R (.bool (W.dataLt (.tuple xs) (.tuple ys)))) := rfl
end DL
set_option Elab.async false
set_option linter.all false
set_option maxRecDepth 100000
set_option maxHeartbeats 4000000
namespace DL
open PySem PySem.Spec PyProof.Rows L2
variable [Tb]
section
variable {X : Cx} {e f : Expr} {pos pos' px : Pos} {x : Str} {i : Nat}
theorem jt_din (hu : X.A.units + 64 < cLine) {w : DE} (he : JE X e w) (hx : PE X (.Name x px) (tVar i)) (hm : behindInMarks .In (.Name x px) = false := by rfl) : JT X (.Compare e [.In] [.Name x px] pos) (wB (wDIn i w)) :=
  pt_le (pt_cmp (pc_din (Nat.lt_of_le_of_lt (Nat.add_le_add_left (by decide : 1 ≤ 64) _) hu) he hx) hm) fun pins s σ H Q I h => by
    obtain ⟨B, G, δ, R, rel, hw, k⟩ := b_up h
    exact ⟨B, G, δ, _, rel, hw, fun v H1 G1 o δ1 r1 s1 rel1 ok1 => by
      obtain ⟨y, ⟨ns, rfl, n0, a, kvs, hδ, q⟩, b1⟩ := use_ok rel1 ok1 r1
      obtain ⟨p, rfl, hp⟩ := key_at rel1 b1 n0
      obtain ⟨o', hσ, rfl, ws, ha, dk⟩ := rel1.at hδ
      refine ⟨.ref a, hσ, a, _, rfl, DGet.t ha hp, ?_⟩
      have e : (valV ws (keyI ns)).isSome = (valD kvs ns).isSome := by
        rcases dk.val ns with ⟨q1, q2⟩ | ⟨x, v, q1, q2, _⟩ <;> rw [q1, q2] <;> rfl
      rw [e]
      exact k _ H1 G1 _ δ1 q s1 rel1 (Dn.bl _)⟩
end
end DL
set_option Elab.async false
set_option linter.all false
set_option maxRecDepth 100000
set_option maxHeartbeats 4000000
namespace DL
open PySem PySem.Spec PyProof.Rows L2
variable [Tb]
section
variable {P : Program} {w : World} {K : PySem.W.Frag} {mg : Str → Option Value} {base : Heap}
end
end DL
set_option Elab.async false
set_option linter.all false
set_option maxRecDepth 100000
set_option maxHeartbeats 4000000
namespace DL
open PySem PySem.Spec PyProof.Rows L2
variable [Tb]
def wAugS (i : Nat) (wi : DE) (c : Int) : DTS := fun E δ => isOl δ i ∧ wi δ fun oj δ1 => use oj δ1 fun j => asI j (fun jn => olC δ1[i]? (fun a xs => 0 ≤ jn ∧ onS xs[jn.toNat]? (fun x => asI x (fun m => E.nx (δ1.set i (.ol a (xs.set jn.toNat (.int (m + c)))))) .mk) .mk) .mk) .mk
omit [Tb] in
@[simp ↓] theorem wAugS_ap (i : Nat) (wi : DE) (c : Int) (E : DEnds) (δ : DS) : wAugS i wi c E δ = (isOl δ i ∧ wi δ fun oj δ1 => use oj δ1 fun j => asI j (fun jn => olC δ1[i]? (fun a xs => 0 ≤ jn ∧ onS xs[jn.toNat]? (fun x => asI x (fun m => E.nx (δ1.set i (.ol a (xs.set jn.toNat (.int (m + c)))))) .mk) .mk) .mk) .mk) := rfl
section
variable {X : Cx} {e : Expr} {pos px p1 p2 : Pos} {x : Str} {i : Nat}
end
end DL
set_option Elab.async false
set_option linter.all false
set_option maxRecDepth 100000
set_option maxHeartbeats 4000000
namespace DL
open PySem PySem.Spec PyProof.Rows L2
variable [Tb]
def pLeT : P2 := fun x y R => match x, y with
  | .int i, .int j => R (.bool (decide (i ≤ j)))
  | .tuple xs, .tuple ys => (noOL xs = true ∧ noOL ys = true) ∧ W.alike (.tuple xs) (.tuple ys) = true ∧ (PyData.tuple xs).depth ≤ 50 ∧ R (.bool (!W.dataLt (.tuple ys) (.tuple xs)))
  | _, _ => False
section
variable {X : Cx}
end
omit [Tb] in
@[simp ↓] theorem pLeT_ii (i j : Int) (R : PyData → Prop) : pLeT (.int i) (.int j) R = R (.bool (decide (i ≤ j))) := rfl
omit [Tb] in
@[simp ↓] theorem pLeT_tt (xs ys : List PyData) (R : PyData → Prop) : pLeT (.tuple xs) (.tuple ys) R = ((noOL xs = true ∧ noOL ys = true) ∧ W.alike (.tuple xs) (.tuple ys) = true ∧ (PyData.tuple xs).depth ≤ 50 ∧ R (.bool (!W.dataLt (.tuple ys) (.tuple xs)))) := rfl
end DL
set_option Elab.async false
set_option linter.all false
set_option maxRecDepth 100000
set_option maxHeartbeats 4000000
namespace DL
open PySem PySem.Spec PyProof.Rows L2
variable [Tb]
def wIfL (t : DT) (la lb : DL) : DL := fun δ R => t δ fun k δ1 => if k = true then la δ1 R else lb δ1 R
theorem jl_ifE {X : Cx} {c a b : Expr} {pos : Pos} {t : DT} {wa wb : DL} (hc : JT X c t) (ha : JL X a wa) (hb : JL X b wb) : JL X (.IfExp c a b pos) (wIfL t wa wb) :=
  pe_le (pe_ifExp hc ha hb) fun pins s σ H Q I ⟨B, G, δ, R, rel, hw, k⟩ => ⟨B, G, δ, _, rel, hw, fun d H1 G1 δ1 r1 s1 rel1 => by
    cases d with
    | true => rw [if_pos rfl] at r1 ⊢; exact ⟨B, G1, δ1, _, rel1, r1, fun a vs H2 G2 xs δ2 r2 s2 rel2 => k a vs H2 G2 xs δ2 r2 (s1.trans s2) rel2⟩
    | false => rw [if_neg Bool.false_ne_true] at r1 ⊢; exact ⟨B, G1, δ1, _, rel1, r1, fun a vs H2 G2 xs δ2 r2 s2 rel2 => k a vs H2 G2 xs δ2 r2 (s1.trans s2) rel2⟩⟩
omit [Tb] in
@[simp ↓] theorem wIfL_ap (t : DT) (la lb : DL) (δ : DS) (R : List PyData → DS → Prop) : wIfL t la lb δ R = (t δ fun k δ1 => if k = true then la δ1 R else lb δ1 R) := rfl
end DL
set_option Elab.async false
set_option linter.all false
set_option maxRecDepth 100000
set_option maxHeartbeats 4000000
namespace DL
open PySem PySem.Spec PyProof.Rows L2
variable [Tb]
open PySem.SeqAt
open AutoSeq1 (wpAny_loadPart')
open MeetsSeq
def IsD (h : Heap) (a : Addr) : Prop := ∃ o es n, h.get? a = some o ∧ o.cls = .type "dict" ∧ o.data = .dict es n
section
variable {A : Around} {s : Shared} {l b : Addr} {es : Array DictEntry} {its : Array Value} {n m : Nat} {dd de : Option Addr} {sl sm : Array (Option Value)}
abbrev DictAt (h : Heap) (l : Addr) (es : Array DictEntry) (n : Nat) (dd : Option Addr) (sl : Array (Option Value)) : Prop := h.get? l = some { cls := .type "dict", dict := dd, data := .dict es n, slots := sl }
abbrev RowAt (T : String) (h : Heap) (b : Addr) (its : Array Value) (m : Nat) (de : Option Addr) (sm : Array (Option Value)) : Prop := h.get? b = some { cls := .type T, dict := de, data := .seq its m, slots := sm }
theorem away_none : Meets (Builtin.«dict.__eq__» ⟨[.ref l, .none], []⟩) (fun _ R z => DictAt z.heap l es n dd sl ∧ R (.ok (.ret .notImplemented)) z) := by
  refine .of_wp fun prog w A R ⟨hp, gs, dr, tk, os⟩ h => ?_
  have away := F.sub_NoneType_dict
  obtain ⟨at_l, h⟩ := h
  wp_walk using wpAny_loadPart' at_l
  exact ⟨_, rfl, h⟩
theorem away_bool (x : Bool) : Meets (Builtin.«dict.__eq__» ⟨[.ref l, .bool x], []⟩) (fun _ R z => DictAt z.heap l es n dd sl ∧ R (.ok (.ret .notImplemented)) z) := by
  refine .of_wp fun prog w A R ⟨hp, gs, dr, tk, os⟩ h => ?_
  have away := F.sub_bool_dict
  obtain ⟨at_l, h⟩ := h
  wp_walk using wpAny_loadPart' at_l
  exact ⟨_, rfl, h⟩
theorem away_int (x : Int) (u : Tok) : Meets (Builtin.«dict.__eq__» ⟨[.ref l, .int x u], []⟩) (fun _ R z => DictAt z.heap l es n dd sl ∧ R (.ok (.ret .notImplemented)) z) := by
  refine .of_wp fun prog w A R ⟨hp, gs, dr, tk, os⟩ h => ?_
  have away := F.sub_int_dict
  obtain ⟨at_l, h⟩ := h
  wp_walk using wpAny_loadPart' at_l
  exact ⟨_, rfl, h⟩
theorem away_str (x : Str) (u : Tok) : Meets (Builtin.«dict.__eq__» ⟨[.ref l, .str x u], []⟩) (fun _ R z => DictAt z.heap l es n dd sl ∧ R (.ok (.ret .notImplemented)) z) := by
  refine .of_wp fun prog w A R ⟨hp, gs, dr, tk, os⟩ h => ?_
  have away := F.sub_str_dict
  obtain ⟨at_l, h⟩ := h
  wp_walk using wpAny_loadPart' at_l
  exact ⟨_, rfl, h⟩
theorem bool_away (x : Bool) : Meets (Builtin.«int.__eq__» ⟨[.bool x, .ref l], []⟩) (fun _ R z => DictAt z.heap l es n dd sl ∧ R (.ok (.ret .notImplemented)) z) := by
  refine .of_wp fun prog w A R ⟨hp, gs, dr, tk, os⟩ h => ?_
  obtain ⟨at_l, h⟩ := h
  wp_walk using wpAny_loadPart' at_l, wpAny_load at_l
  exact ⟨_, rfl, h⟩
theorem int_away (x : Int) (u : Tok) : Meets (Builtin.«int.__eq__» ⟨[.int x u, .ref l], []⟩) (fun _ R z => DictAt z.heap l es n dd sl ∧ R (.ok (.ret .notImplemented)) z) := by
  refine .of_wp fun prog w A R ⟨hp, gs, dr, tk, os⟩ h => ?_
  obtain ⟨at_l, h⟩ := h
  wp_walk using wpAny_loadPart' at_l, wpAny_load at_l
  exact ⟨_, rfl, h⟩
theorem str_away (x : Str) (u : Tok) : Meets (Builtin.«str.__eq__» ⟨[.str x u, .ref l], []⟩) (fun _ R z => DictAt z.heap l es n dd sl ∧ R (.ok (.ret .notImplemented)) z) := by
  refine .of_wp fun prog w A R ⟨hp, gs, dr, tk, os⟩ h => ?_
  obtain ⟨at_l, h⟩ := h
  wp_walk using wpAny_loadPart' at_l, wpAny_load at_l
  exact ⟨_, rfl, h⟩
theorem away_list : Meets (Builtin.«dict.__eq__» ⟨[.ref l, .ref b], []⟩) (fun _ R z => DictAt z.heap l es n dd sl ∧ RowAt "list" z.heap b its m de sm ∧ R (.ok (.ret .notImplemented)) z) := by
  refine .of_wp fun prog w A R ⟨hp, gs, dr, tk, os⟩ h => ?_
  have away := F.sub_list_dict
  obtain ⟨at_l, at_b, h⟩ := h
  wp_walk using wpAny_loadPart' at_l, wpAny_loadPart' at_b
  exact ⟨_, rfl, h⟩
theorem list_away : Meets (Builtin.«list.__eq__» ⟨[.ref b, .ref l], []⟩) (fun _ R z => DictAt z.heap l es n dd sl ∧ RowAt "list" z.heap b its m de sm ∧ R (.ok (.ret .notImplemented)) z) := by
  refine .of_wp fun prog w A R ⟨hp, gs, dr, tk, os⟩ h => ?_
  have away := F.sub_dict_list
  obtain ⟨at_l, at_b, h⟩ := h
  wp_walk using wpAny_loadPart' at_b, wpAny_loadPart' at_l
  exact ⟨_, rfl, h⟩
theorem away_tuple : Meets (Builtin.«dict.__eq__» ⟨[.ref l, .ref b], []⟩) (fun _ R z => DictAt z.heap l es n dd sl ∧ RowAt "tuple" z.heap b its m de sm ∧ R (.ok (.ret .notImplemented)) z) := by
  refine .of_wp fun prog w A R ⟨hp, gs, dr, tk, os⟩ h => ?_
  have away := F.sub_tuple_dict
  obtain ⟨at_l, at_b, h⟩ := h
  wp_walk using wpAny_loadPart' at_l, wpAny_loadPart' at_b
  exact ⟨_, rfl, h⟩
theorem tuple_away : Meets (Builtin.«tuple.__eq__» ⟨[.ref b, .ref l], []⟩) (fun _ R z => DictAt z.heap l es n dd sl ∧ RowAt "tuple" z.heap b its m de sm ∧ R (.ok (.ret .notImplemented)) z) := by
  refine .of_wp fun prog w A R ⟨hp, gs, dr, tk, os⟩ h => ?_
  have away := F.sub_dict_tuple
  obtain ⟨at_l, at_b, h⟩ := h
  wp_walk using wpAny_loadPart' at_b, wpAny_loadPart' at_l
  exact ⟨_, rfl, h⟩
/-- a thing against a dict, where both classes wave the other away -/
theorem differs {v : Value} {T id : String} (at_l : DictAt s.heap l es n dd sl) (ty : s.TypeIs v T) (ne : (Value.type T != Value.type "dict") = true) (sub : isSubtype (.type "dict") (.type T) = pure false) (slot : Slot T (cmpInfo .Eq).2.1 id) (room : A.units < cLine)
    (mine : ∀ (prog : Program) (w : World) (E Q : Value → Shared → Prop), Q .notImplemented s → wpAny (model prog w) A (call (.builtin id) [v, .ref l]) Q E s)
    (dicts : ∀ (prog : Program) (w : World) (E Q : Value → Shared → Prop), Q .notImplemented s → wpAny (model prog w) A (call (.builtin "dict.__eq__") [.ref l, v]) Q E s)
    (same : ∀ (prog : Program) (w : World) (E : Value → Shared → Prop) (Q : Bool → Shared → Prop), Q false s → wpAny (model prog w) A (isSame v (.ref l)) Q E s) : RcAt A s v (.ref l) false :=
  fun prog w E Q h => by
    exact rc_eq_decline_or (k := false) ty ⟨_, at_l, rfl⟩ ne sub slot F.slot_dict_eq_refl (mine prog w E) (dicts prog w E) (same prog w E) (.inr room) h
/-- what is no reference is not the dict itself -/
theorem differs_flat {v : Value} (flat : v = .none ∨ (∃ x, v = .bool x) ∨ (∃ x u, v = .int x u) ∨ ∃ x u, v = .str x u) (rc : RcAt A s v (.ref l) false) : EqAt A s v (.ref l) false := fun prog w E Q h => by
  have go : wpAny (model prog w) A (richCompare .Eq v (.ref l)) (fun r z => wpAny (model prog w) A (truthOfDropped r) Q E z) E s := rc prog w E _ (wpAny_truthy_bool h)
  delta eqBool
  rcases flat with rfl | ⟨_, rfl⟩ | ⟨_, _, rfl⟩ | ⟨_, _, rfl⟩ <;> exact wpAny_holding (wpAny_ite_split (fun e => absurd (eq_of_beq e) nofun) fun _ => wpAny_bind go)
theorem IsD.at {h : Heap} (d : IsD h l) : ∃ dd es n sl, DictAt h l es n dd sl := by
  obtain ⟨⟨_, dd, _, sl⟩, es, n, at_l, rfl, rfl⟩ := d
  exact ⟨dd, es, n, sl, at_l⟩
theorem dict_says {v : Value} {x : Shared} (at_l : DictAt s.heap l es n dd sl) {prog : Program} {w : World} {E Q : Value → Shared → Prop} {S : PySem.Spec} (own : Meets (Builtin.«dict.__eq__» ⟨[.ref l, v], []⟩) S) (h : S A (wants Q E) s) :
    wpAny (model prog w) A (call (.builtin "dict.__eq__") [.ref l, v]) Q E s :=
  call_meets F.slot_dict_eq_refl ⟨_, at_l, rfl⟩ F.entry_dict_eq (F.args_dict_eq_2 _ _) own h
theorem eq_NoneType_dict (d : IsD s.heap l) (room : A.units < cLine) : EqAt A s .none (.ref l) false := by
  obtain ⟨dd, es, n, sl, at_l⟩ := d.at
  exact differs_flat (.inl rfl) (differs at_l (T := "NoneType") rfl (by decide) F.sub_dict_NoneType F.slot_NoneType_eq room (fun _ _ _ _ q => call_gives F.slot_NoneType_eq rfl F.entry_NoneType_eq (F.args_NoneType_eq_2 _ _) (NoneType___eq___none_ref_0 l) q)
    (fun _ _ _ _ q => dict_says (x := s) at_l away_none ⟨at_l, q⟩) fun _ _ _ _ q => wpAny_of_eq (rfl : isSame .none (.ref l) = pure false) q)
theorem eq_bool_dict (x : Bool) (d : IsD s.heap l) (room : A.units < cLine) : EqAt A s (.bool x) (.ref l) false := by
  obtain ⟨dd, es, n, sl, at_l⟩ := d.at
  exact differs_flat (.inr (.inl ⟨_, rfl⟩)) (differs at_l (T := "bool") rfl (by decide) F.sub_dict_bool F.slot_bool_eq room (fun _ _ _ _ q => call_meets F.slot_bool_eq rfl F.entry_int_eq (F.args_int_eq_2 _ _) (bool_away x) ⟨at_l, q⟩)
    (fun _ _ _ _ q => dict_says (x := s) at_l (away_bool x) ⟨at_l, q⟩) fun _ _ _ _ q => wpAny_of_eq (rfl : isSame (.bool x) (.ref l) = pure false) q)
theorem eq_int_dict (x : Int) (u : Tok) (d : IsD s.heap l) (room : A.units < cLine) : EqAt A s (.int x u) (.ref l) false := by
  obtain ⟨dd, es, n, sl, at_l⟩ := d.at
  exact differs_flat (.inr (.inr (.inl ⟨_, _, rfl⟩))) (differs at_l (typeIs_int s x u) (by decide) F.sub_dict_int F.slot_int_eq room (fun _ _ _ _ q => call_meets F.slot_int_eq (typeIs_int s x u) F.entry_int_eq (F.args_int_eq_2 _ _) (int_away x u) ⟨at_l, q⟩)
    (fun _ _ _ _ q => dict_says (x := s) at_l (away_int x u) ⟨at_l, q⟩) fun _ _ _ _ q => wpAny_of_eq (rfl : isSame (.int x u) (.ref l) = pure false) q)
theorem eq_str_dict (x : Str) (u : Tok) (d : IsD s.heap l) (room : A.units < cLine) : EqAt A s (.str x u) (.ref l) false := by
  obtain ⟨dd, es, n, sl, at_l⟩ := d.at
  exact differs_flat (.inr (.inr (.inr ⟨_, _, rfl⟩))) (differs at_l (typeIs_str s x u) (by decide) F.sub_dict_str F.slot_str_eq room (fun _ _ _ _ q => call_meets F.slot_str_eq (typeIs_str s x u) F.entry_str_eq (F.args_str_eq_2 _ _) (str_away x u) ⟨at_l, q⟩)
    (fun _ _ _ _ q => dict_says (x := s) at_l (away_str x u) ⟨at_l, q⟩) fun _ _ _ _ q => wpAny_of_eq (rfl : isSame (.str x u) (.ref l) = pure false) q)
/-- a row and a dict don't lie in one place -/
theorem elsewhere {T : String} (t : T ≠ "dict") (at_b : RowAt T s.heap b its m de sm) (at_l : DictAt s.heap l es n dd sl) : b ≠ l := by
  rintro rfl
  have e := at_b.symm.trans at_l
  simp only [Option.some.injEq, Obj.mk.injEq, Value.type.injEq] at e
  exact t e.1
theorem eq_list_dict (p : s.heap.IsList b its) (d : IsD s.heap l) (room : A.units < cLine) : EqAt A s (.ref b) (.ref l) false := by
  obtain ⟨dd, es, n, sl, at_l⟩ := d.at
  obtain ⟨⟨_, de, _, sm⟩, at_b, rfl, m, rfl⟩ := p
  have apart := elsewhere (T := "list") (by decide) at_b at_l
  exact .of_refs apart (differs at_l ⟨_, at_b, rfl⟩ (by decide) F.sub_dict_list F.slot_list_eq room (fun _ _ _ _ q => call_meets F.slot_list_eq ⟨_, at_b, rfl⟩ F.entry_list_eq (F.args_list_eq_2 _ _) list_away ⟨at_l, at_b, q⟩)
    (fun _ _ _ _ q => dict_says (x := s) at_l away_list ⟨at_l, at_b, q⟩) fun _ _ _ _ q => wpAny_isSame_ref_other' apart at_b at_l (by simp) q)
theorem eq_tuple_dict (p : s.heap.IsTuple b its) (d : IsD s.heap l) (room : A.units < cLine) : EqAt A s (.ref b) (.ref l) false := by
  obtain ⟨dd, es, n, sl, at_l⟩ := d.at
  obtain ⟨⟨_, de, _, sm⟩, at_b, rfl, m, rfl⟩ := p
  have apart := elsewhere (T := "tuple") (by decide) at_b at_l
  exact .of_refs apart (differs at_l ⟨_, at_b, rfl⟩ (by decide) F.sub_dict_tuple F.slot_tuple_eq room (fun _ _ _ _ q => call_meets F.slot_tuple_eq ⟨_, at_b, rfl⟩ F.entry_tuple_eq (F.args_tuple_eq_2 _ _) tuple_away ⟨at_l, at_b, q⟩)
    (fun _ _ _ _ q => dict_says (x := s) at_l away_tuple ⟨at_l, at_b, q⟩) fun _ _ _ _ q => wpAny_isSame_ref_other' apart at_b at_l (by simp) q)
end
end DL
set_option Elab.async false
set_option linter.all false
set_option maxRecDepth 100000
set_option maxHeartbeats 4000000
namespace DL
open PySem PySem.Spec PyProof.Rows L2
variable [Tb]
open PySem.SeqAt
theorem reads_list {h : Heap} {v : Value} {xs : List PyData} {as : List Addr} (r : Reads h v (.list xs) as) : ∃ a vs bs, v = .ref a ∧ h.IsList a vs ∧ vs.size = xs.length ∧ ReadsAll h vs.toList xs bs := by
  cases r with
  | list at_a cl dt rs => exact ⟨_, _, _, rfl, ⟨_, at_a, cl, _, dt⟩, (Array.length_toList).symm.trans (ReadsAll.length _ _ _ rs), rs⟩
theorem reads_tuple {h : Heap} {v : Value} {xs : List PyData} {as : List Addr} (r : Reads h v (.tuple xs) as) : ∃ a vs bs, v = .ref a ∧ h.IsTuple a vs ∧ vs.size = xs.length ∧ ReadsAll h vs.toList xs bs := by
  cases r with
  | tuple at_a cl dt rs => exact ⟨_, _, _, rfl, ⟨_, at_a, cl, _, dt⟩, (Array.length_toList).symm.trans (ReadsAll.length _ _ _ rs), rs⟩
/-- two things of other kinds, or one of them flat; what the library tells already is left to it -/
theorem eqAt_kinds {A : Around} {s : Shared} {a b : Value} {as bs : List Addr} (da db : PyData) (ra : Reads s.heap a da as) (rb : Reads s.heap b db bs) (lay : da.canLay0 = true) (room : A.units < cLine) (new : ¬ db.canLay0 = true)
    (other : (∀ xs ys, ¬ (da = .list xs ∧ db = .list ys)) ∧ ∀ xs ys, ¬ (da = .tuple xs ∧ db = .tuple ys)) : EqAt A s a b (PyData.eqv da db) := by
  cases rb with
  | none => exact absurd rfl new
  | bool => exact absurd rfl new
  | int => exact absurd rfl new
  | str y u => cases ra with
    | none => exact .none_str y u
    | bool x => exact .bool_str x y u
    | int x t => exact .int_str x t y u
    | str x t => exact .str_str x t y u
    | list h1 h2 h3 => exact .list_str y u ⟨_, h1, h2, _, h3⟩ room
    | tuple h1 h2 h3 => exact .tuple_str y u ⟨_, h1, h2, _, h3⟩ room
    | dict => exact absurd lay Bool.false_ne_true
  | list k1 k2 k3 _ => cases ra with
    | none => exact EqAt.none_list ⟨_, k1, k2, _, k3⟩ room
    | bool x => exact EqAt.bool_list x ⟨_, k1, k2, _, k3⟩ room
    | int x t => exact EqAt.int_list x t ⟨_, k1, k2, _, k3⟩ room
    | str x t => exact EqAt.str_list x t ⟨_, k1, k2, _, k3⟩ room
    | tuple h1 h2 h3 => exact EqAt.tuple_list ⟨_, h1, h2, _, h3⟩ ⟨_, k1, k2, _, k3⟩ room
    | list => exact absurd ⟨rfl, rfl⟩ (other.1 _ _)
    | dict => exact absurd lay Bool.false_ne_true
  | tuple k1 k2 k3 _ => cases ra with
    | none => exact EqAt.none_tuple ⟨_, k1, k2, _, k3⟩ room
    | bool x => exact EqAt.bool_tuple x ⟨_, k1, k2, _, k3⟩ room
    | int x t => exact EqAt.int_tuple x t ⟨_, k1, k2, _, k3⟩ room
    | str x t => exact EqAt.str_tuple x t ⟨_, k1, k2, _, k3⟩ room
    | list h1 h2 h3 => exact EqAt.list_tuple ⟨_, h1, h2, _, h3⟩ ⟨_, k1, k2, _, k3⟩ room
    | tuple => exact absurd ⟨rfl, rfl⟩ (other.2 _ _)
    | dict => exact absurd lay Bool.false_ne_true
  | dict k1 k2 k3 => cases ra with
    | none => exact eq_NoneType_dict ⟨_, _, _, k1, k2, k3⟩ room
    | bool x => exact eq_bool_dict x ⟨_, _, _, k1, k2, k3⟩ room
    | int x t => exact eq_int_dict x t ⟨_, _, _, k1, k2, k3⟩ room
    | str x t => exact eq_str_dict x t ⟨_, _, _, k1, k2, k3⟩ room
    | list h1 h2 h3 => exact eq_list_dict ⟨_, h1, h2, _, h3⟩ ⟨_, _, _, k1, k2, k3⟩ room
    | tuple h1 h2 h3 => exact eq_tuple_dict ⟨_, h1, h2, _, h3⟩ ⟨_, _, _, k1, k2, k3⟩ room
    | dict => exact absurd lay Bool.false_ne_true
/-- the items of two rows, pair by pair -/
def Pairwise2 (A : Around) (s : Shared) (vs us : Array Value) (xs ys : List PyData) : Prop := ∀ j (h1 : j < vs.size) (h2 : j < us.size), EqAt A s vs[j] us[j] (pairEq xs ys j)
theorem eqAt_lists {A : Around} {s : Shared} {l l' : Addr} {vs us : Array Value} {xs ys : List PyData} (apart : l ≠ l') (p : s.heap.IsList l vs) (p' : s.heap.IsList l' us) (n : vs.size = xs.length) (n' : us.size = ys.length) (room : A.units < cLine)
    (each : Pairwise2 A.in1 s vs us xs ys) : EqAt A s (.ref l) (.ref l') (PyData.eqvAll xs ys) := by
  refine EqAt.of_refs apart ?_
  by_cases same : xs.length = ys.length
  · have go := RcAt.lists p p' (n.trans (same.trans n'.symm)) room each
    rwa [n, eqvAll_same_length same] at go
  · rw [eqvAll_other_length same]
    exact RcAt.lists_lengths p p' (by rw [n, n']; simpa using same) room
theorem eqAt_tuples {A : Around} {s : Shared} {l l' : Addr} {vs us : Array Value} {xs ys : List PyData} (apart : l ≠ l') (p : s.heap.IsTuple l vs) (p' : s.heap.IsTuple l' us) (n : vs.size = xs.length) (n' : us.size = ys.length) (room : A.units < cLine)
    (each : Pairwise2 A.in1 s vs us xs ys) : EqAt A s (.ref l) (.ref l') (PyData.eqvAll xs ys) := by
  have go := RcAt.tuples p p' room each
  rw [n, n', eqvAll_eq] at go
  exact EqAt.of_refs apart go
/-- .. and where the library tells all, it tells this -/
theorem eqAt_rest {A : Around} {s : Shared} {a b : Value} {as bs : List Addr} {da db : PyData} (ra : Reads s.heap a da as) (rb : Reads s.heap b db bs) (lay : da.canLay0 = true) (room : A.units + da.depth < cLine)
    (other : (∀ xs ys, ¬ (da = .list xs ∧ db = .list ys)) ∧ ∀ xs ys, ¬ (da = .tuple xs ∧ db = .tuple ys)) : EqAt A s a b (PyData.eqv da db) := by
  by_cases told : db.canLay0 = true
  · exact eqAt_reads da db A s a b as bs ra rb lay told (by omega)
  · exact eqAt_kinds da db ra rb lay (by omega) told other
mutual
theorem eqAt_any : ∀ (da db : PyData) {A : Around} {s : Shared} {a b : Value} {as bs : List Addr}, Reads s.heap a da as → Reads s.heap b db bs → da.canLay0 = true → A.units + da.depth < cLine → EqAt A s a b (PyData.eqv da db)
  | .list xs, db, A, s, a, b, as, bs, ra, rb, lay, room => by
    rcases Classical.em (∃ ys, db = .list ys) with ⟨ys, rfl⟩ | no
    · obtain ⟨l, vs, _, rfl, p, n, rs⟩ := reads_list ra
      obtain ⟨l', us, _, rfl, p', n', rs'⟩ := reads_list rb
      by_cases e : l = l'
      · subst e
        cases Reads.unique (.list xs) (.list ys) _ _ _ lay ra rb
        rw [show PyData.eqv (.list xs) (.list xs) = true from eqvAll_refl xs lay]
        exact EqAt.same _
      · rw [PyData.depth] at room
        exact eqAt_lists e p p' n n' (by omega) fun j h1 h2 => eqAt_anys xs ys rs rs' lay (show A.units + 1 + _ < _ by omega) j h1 h2
    · exact eqAt_rest ra rb lay room ⟨fun _ ys z => no ⟨ys, z.2⟩, fun _ _ z => nomatch z.1⟩
  | .tuple xs, db, A, s, a, b, as, bs, ra, rb, lay, room => by
    rcases Classical.em (∃ ys, db = .tuple ys) with ⟨ys, rfl⟩ | no
    · obtain ⟨l, vs, _, rfl, p, n, rs⟩ := reads_tuple ra
      obtain ⟨l', us, _, rfl, p', n', rs'⟩ := reads_tuple rb
      by_cases e : l = l'
      · subst e
        cases Reads.unique (.tuple xs) (.tuple ys) _ _ _ lay ra rb
        rw [show PyData.eqv (.tuple xs) (.tuple xs) = true from eqvAll_refl xs lay]
        exact EqAt.same _
      · rw [PyData.depth] at room
        exact eqAt_tuples e p p' n n' (by omega) fun j h1 h2 => eqAt_anys xs ys rs rs' lay (show A.units + 1 + _ < _ by omega) j h1 h2
    · exact eqAt_rest ra rb lay room ⟨(fun _ _ z => nomatch z.1), fun _ ys z => no ⟨ys, z.2⟩⟩
  | .none, _, _, _, _, _, _, _, ra, rb, lay, room => eqAt_rest ra rb lay room ⟨(fun _ _ z => nomatch z.1), (fun _ _ z => nomatch z.1)⟩
  | .bool _, _, _, _, _, _, _, _, ra, rb, lay, room => eqAt_rest ra rb lay room ⟨(fun _ _ z => nomatch z.1), (fun _ _ z => nomatch z.1)⟩
  | .int _, _, _, _, _, _, _, _, ra, rb, lay, room => eqAt_rest ra rb lay room ⟨(fun _ _ z => nomatch z.1), (fun _ _ z => nomatch z.1)⟩
  | .str _, _, _, _, _, _, _, _, ra, rb, lay, room => eqAt_rest ra rb lay room ⟨(fun _ _ z => nomatch z.1), (fun _ _ z => nomatch z.1)⟩
  | .dict _, _, _, _, _, _, _, _, _, _, lay, _ => nomatch lay
theorem eqAt_anys : ∀ (xs ys : List PyData) {A : Around} {s : Shared} {vs us : List Value} {as bs : List Addr}, ReadsAll s.heap vs xs as → ReadsAll s.heap us ys bs → PyData.canLayAll0 xs = true → A.units + PyData.depthAll xs < cLine →
    ∀ j (h1 : j < vs.length) (h2 : j < us.length), EqAt A s vs[j] us[j] (pairEq xs ys j)
  | [], _, _, _, _, _, _, _, .nil, _, _, _, _, h1, _ => nomatch h1
  | _ :: _, [], _, _, _, _, _, _, _, .nil, _, _, _, _, h2 => nomatch h2
  | x :: xs, y :: ys, _, _, _, _, _, _, .cons r rs, .cons r' rs', lay, room, j, h1, h2 => by
    rw [PyData.canLayAll0, Bool.and_eq_true] at lay
    rw [PyData.depthAll] at room
    cases j with
    | zero => exact eqAt_any x y r r' lay.1 (by omega)
    | succ j => exact eqAt_anys xs ys rs rs' lay.2 (by omega) j (Nat.lt_of_succ_lt_succ h1) (Nat.lt_of_succ_lt_succ h2)
end
/-- x in y, whatever x is -/
def pInX : P2 := fun x y R => match y with
  | .list ds => noO x = true ∧ SeqAt.shaped (.list ds) = true ∧ R (.bool (ds.any fun z => PyData.eqv z x))
  | .tuple ds => noO x = true ∧ SeqAt.shaped (.tuple ds) = true ∧ R (.bool (ds.any fun z => PyData.eqv z x))
  | _ => False
/-- x == () of a tuple, x == [] of a list, whatever lies within -/
def pEqE : P2 := fun x y R => match x, y with
  | .tuple xs, .tuple [] => noOL xs = true ∧ R (.bool xs.isEmpty)
  | .list xs, .list [] => noOL xs = true ∧ R (.bool xs.isEmpty)
  | _, _ => False
def pNeE : P2 := fun x y R => match x, y with
  | .tuple xs, .tuple [] => noOL xs = true ∧ R (.bool (!xs.isEmpty))
  | .list xs, .list [] => noOL xs = true ∧ R (.bool (!xs.isEmpty))
  | _, _ => False
omit [Tb] in
@[simp ↓] theorem pEqE_t (xs : List PyData) (R : PyData → Prop) : pEqE (.tuple xs) (.tuple []) R = (noOL xs = true ∧ R (.bool xs.isEmpty)) := rfl
omit [Tb] in
@[simp ↓] theorem pEqE_l (xs : List PyData) (R : PyData → Prop) : pEqE (.list xs) (.list []) R = (noOL xs = true ∧ R (.bool xs.isEmpty)) := rfl
omit [Tb] in
@[simp ↓] theorem pNeE_t (xs : List PyData) (R : PyData → Prop) : pNeE (.tuple xs) (.tuple []) R = (noOL xs = true ∧ R (.bool (!xs.isEmpty))) := rfl
omit [Tb] in
@[simp ↓] theorem pNeE_l (xs : List PyData) (R : PyData → Prop) : pNeE (.list xs) (.list []) R = (noOL xs = true ∧ R (.bool (!xs.isEmpty))) := rfl
omit [Tb] in
@[simp ↓] theorem pInX_l (x : PyData) (ds : List PyData) (R : PyData → Prop) : pInX x (.list ds) R = (noO x = true ∧ SeqAt.shaped (.list ds) = true ∧ R (.bool (ds.any fun z => PyData.eqv z x))) := rfl
omit [Tb] in
@[simp ↓] theorem pInX_t (x : PyData) (ds : List PyData) (R : PyData → Prop) : pInX x (.tuple ds) R = (noO x = true ∧ SeqAt.shaped (.tuple ds) = true ∧ R (.bool (ds.any fun z => PyData.eqv z x))) := rfl
section
variable {X : Cx}
end
end DL
set_option Elab.async false
set_option linter.all false
set_option maxRecDepth 100000
set_option maxHeartbeats 4000000
namespace DL
open PySem PySem.Spec PyProof.Rows L2
variable [Tb]
def stC (x : PyData) (k : Str → Prop) : Prop := match x with
  | .str z => k z
  | _ => False
omit [Tb] in
@[simp ↓] theorem stC_s (z : Str) (k : Str → Prop) : stC (.str z) k = k z := rfl
def wUpper (w : DE) : DE := fun δ R => w δ fun o δ1 => use o δ1 fun x => stC x fun z => z.length ≤ 1000000 ∧ R (.d (.str (Txt.upper z))) δ1
omit [Tb] in
@[simp ↓] theorem wUpper_ap (w : DE) (δ : DS) (R : Opd → DS → Prop) : wUpper w δ R = (w δ fun o δ1 => use o δ1 fun x => stC x fun z => z.length ≤ 1000000 ∧ R (.d (.str (Txt.upper z))) δ1) := rfl
section
variable {X : Cx}
end
end DL
set_option Elab.async false
set_option linter.all false
set_option maxRecDepth 100000
set_option maxHeartbeats 4000000
namespace DL
open PySem PySem.Spec PyProof.Rows L2
variable [Tb]
section
variable {X : Cx}
/-- x[:0:-1] of a tuple -/
def rev0D (x : PyData) (k : PyData → Prop) : Prop := match x with
  | .tuple ds => 1 ≤ ds.length ∧ k (.tuple (ds.drop 1).reverse)
  | _ => False
omit [Tb] in
@[simp ↓] theorem rev0D_t (ds : List PyData) (k : PyData → Prop) : rev0D (.tuple ds) k = (1 ≤ ds.length ∧ k (.tuple (ds.drop 1).reverse)) := rfl
def wRev0 (w : DE) : DE := fun δ R => w δ fun o δ1 => use o δ1 fun x => rev0D x fun z => R (.d z) δ1
omit [Tb] in
@[simp ↓] theorem wRev0_ap (w : DE) (δ : DS) (R : Opd → DS → Prop) : wRev0 w δ R = (w δ fun o δ1 => use o δ1 fun x => rev0D x fun z => R (.d z) δ1) := rfl
end
def gTL (r : DTGs) : DTG := fun x δ R => match x with
  | .list xs => r xs δ R
  | _ => False
omit [Tb] in
@[simp ↓] theorem gTL_l (r : DTGs) (xs : List PyData) (δ : DS) (R : DS → Prop) : gTL r (.list xs) δ R = r xs δ R := rfl
section
variable {X : Cx} {pos : Pos}
end
section
variable {X : Cx}
end
end DL
set_option Elab.async false
set_option linter.all false
set_option maxRecDepth 100000
set_option maxHeartbeats 4000000
namespace DL
open PySem PySem.Spec PyProof.Rows L2
variable [Tb]
def strsC (x : PyData) (k : List Str → Prop) (_u : Stop k) : Prop := ∃ ys : List Str, x = .list (ys.map PyData.str) ∧ k ys
theorem strs_one {a b : List Str} (h : a.map PyData.str = b.map PyData.str) : a = b :=
  List.map_inj_right (f := PyData.str) (fun _ _ e => PyData.str.inj e) |>.mp h
omit [Tb] in
@[simp ↓] theorem strsC_l (ys : List Str) (k : List Str → Prop) (u : Stop k) : strsC (.list (ys.map PyData.str)) k u = k ys :=
  propext ⟨fun ⟨_, e, h⟩ => strs_one (PyData.list.inj e) ▸ h, fun h => ⟨ys, rfl, h⟩⟩
def wJoinC (a : Str) (w : DE) : DE := fun δ R => w δ fun o δ1 => use o δ1 fun x => strsC x (fun ys => (ys.map (·.length)).sum + ys.length * a.length ≤ 1000000 ∧ R (.d (.str (Txt.join a ys))) δ1) .mk
omit [Tb] in
@[simp ↓] theorem wJoinC_ap (a : Str) (w : DE) (δ : DS) (R : Opd → DS → Prop) : wJoinC a w δ R = (w δ fun o δ1 => use o δ1 fun x => strsC x (fun ys => (ys.map (·.length)).sum + ys.length * a.length ≤ 1000000 ∧ R (.d (.str (Txt.join a ys))) δ1) .mk) := rfl
section
variable {X : Cx}
end
end DL
set_option Elab.async false
set_option linter.all false
set_option maxRecDepth 100000
set_option maxHeartbeats 4000000
namespace DL
open PySem PySem.Spec PyProof.Rows L2
variable [Tb]
def wSplitC (b : Str) (w : DE) : DE := fun δ R => w δ fun o δ1 => use o δ1 fun x => stC x fun z => z.length ≤ 1000000 ∧ R (.d (.list ((Txt.split z b).map PyData.str))) δ1
omit [Tb] in
@[simp ↓] theorem wSplitC_ap (b : Str) (w : DE) (δ : DS) (R : Opd → DS → Prop) : wSplitC b w δ R = (w δ fun o δ1 => use o δ1 fun x => stC x fun z => z.length ≤ 1000000 ∧ R (.d (.list ((Txt.split z b).map PyData.str))) δ1) := rfl
section
variable {X : Cx}
end
end DL
set_option Elab.async false
set_option linter.all false
set_option maxRecDepth 100000
set_option maxHeartbeats 4000000
namespace DL
open PySem PySem.Spec PyProof.Rows L2
variable [Tb]
def signs (z : Str) : List PyData := z.cps.toList.map fun c => .str ⟨#[c]⟩
def iStrD (w : DE) : DL := fun δ R => w δ fun o δ1 => use o δ1 fun x => stC x fun z => z.length ≤ 1000000 ∧ R (signs z) δ1
omit [Tb] in
@[simp ↓] theorem iStrD_ap (w : DE) (δ : DS) (R : List PyData → DS → Prop) : iStrD w δ R = (w δ fun o δ1 => use o δ1 fun x => stC x fun z => z.length ≤ 1000000 ∧ R (signs z) δ1) := rfl
section
variable {X : Cx} {tg : Expr}
end
end DL
set_option Elab.async false
set_option linter.all false
set_option maxRecDepth 100000
set_option maxHeartbeats 4000000
namespace DL
open PySem PySem.Spec PyProof.Rows L2
variable [Tb]
def repS (z : Str) (n : Nat) : Str := ⟨(List.replicate n z.cps).foldl (· ++ ·) #[]⟩
def pMulS : P2 := fun x y R => match x, y with
  | .str z, .int k => (2 ≤ k ∧ k ≤ 1000 ∧ 1 ≤ z.length ∧ z.length ≤ 1000) ∧ R (.str (repS z k.toNat))
  | _, _ => False
omit [Tb] in
@[simp ↓] theorem pMulS_si (z : Str) (k : Int) (R : PyData → Prop) : pMulS (.str z) (.int k) R = ((2 ≤ k ∧ k ≤ 1000 ∧ 1 ≤ z.length ∧ z.length ≤ 1000) ∧ R (.str (repS z k.toNat))) := rfl
section
variable {X : Cx}
end
end DL
set_option Elab.async false
set_option linter.all false
set_option maxRecDepth 100000
set_option maxHeartbeats 4000000
namespace DL
open PySem PySem.Spec PyProof.Rows L2
variable [Tb]
def valI (kvs : List (Int × PyData)) (k : Int) : Option PyData := (kvs.find? fun p => decide (p.1 = k)).map (·.2)
def putI (kvs : List (Int × PyData)) (k : Int) (x : PyData) : List (Int × PyData) := if (kvs.any fun p => decide (p.1 = k)) = true then kvs.map (fun p => if p.1 = k then (p.1, x) else p) else kvs ++ [(k, x)]
def DnI (K : PySem.W.Frag) (G : Hp) (ws : List (Key × V)) (kvs : List (Int × PyData)) : Prop := ws.map (·.1) = kvs.map (fun p => (Sum.inl p.1 : Key)) ∧ DnL K G (ws.map (·.2)) (kvs.map (·.2))
section
variable {K : PySem.W.Frag} {B G G' H H' : Hp} {δ : DS} {σ : L2.St} {a : Addr} {i : Nat}
theorem DnI.nil : DnI K G [] [] := ⟨rfl, .nil⟩
theorem DnI.inv {ws : List (Key × V)} {p : Int × PyData} {kvs : List (Int × PyData)} (h : DnI K G ws (p :: kvs)) : ∃ v ws', ws = (Sum.inl p.1, v) :: ws' ∧ Dn K G v p.2 ∧ DnI K G ws' kvs := by
  obtain ⟨e, t⟩ := h
  match ws, e, t with
  | w :: ws, e, t =>
    rw [List.map_cons, List.map_cons, List.cons.injEq] at e
    rw [List.map_cons, List.map_cons] at t
    cases t with
    | cons d t => exact ⟨w.2, ws, by rw [← e.1], d, e.2, t⟩
theorem DnI.inv0 {ws : List (Key × V)} (h : DnI K G ws []) : ws = [] := by simpa using h.1
theorem DnI.con {p : Int × PyData} {v : V} {ws : List (Key × V)} {kvs : List (Int × PyData)} (d : Dn K G v p.2) (t : DnI K G ws kvs) : DnI K G ((Sum.inl p.1, v) :: ws) (p :: kvs) :=
  ⟨by rw [List.map_cons, List.map_cons, t.1], .cons d t.2⟩
theorem DnI.len : ∀ {kvs : List (Int × PyData)} {ws : List (Key × V)}, DnI K G ws kvs → ws.length = kvs.length
  | [], _, h => by rw [h.inv0]; rfl
  | p :: kvs, _, h => by
    obtain ⟨v, ws', rfl, _, t⟩ := h.inv
    simp [t.len]
theorem DnI.mono {kvs : List (Int × PyData)} {ws : List (Key × V)} (h : DnI K G ws kvs) (s : Same G G') : DnI K G' ws kvs := ⟨h.1, h.2.mono s⟩
theorem DnI.val (k : Int) : ∀ {kvs : List (Int × PyData)} {ws : List (Key × V)}, DnI K G ws kvs → (valI kvs k = none ∧ valV ws (Sum.inl k) = none) ∨ ∃ x v, valI kvs k = some x ∧ valV ws (Sum.inl k) = some v ∧ Dn K G v x
  | [], _, h => by rw [h.inv0]; exact .inl ⟨rfl, rfl⟩
  | p :: kvs, _, h => by
    obtain ⟨v, ws', rfl, d, t⟩ := h.inv
    by_cases q : p.1 = k
    · exact .inr ⟨p.2, v, by simp [valI, q], valV_pos (by simp [q]), d⟩
    · have v1 : valI (p :: kvs) k = valI kvs k := by simp [valI, q]
      have v2 : ¬ (Sum.inl p.1 : Key) = Sum.inl k := fun z => q (Sum.inl.inj z)
      rw [v1, valV_neg v2]
      exact t.val k
theorem DnI.any (k : Int) : ∀ {kvs : List (Int × PyData)} {ws : List (Key × V)}, DnI K G ws kvs → (ws.any fun w => decide (w.1 = (Sum.inl k : Key))) = kvs.any fun p => decide (p.1 = k)
  | [], _, h => by rw [h.inv0]; rfl
  | p :: kvs, _, h => by
    obtain ⟨v, ws', rfl, _, t⟩ := h.inv
    rw [List.any_cons, List.any_cons, t.any k]
    congr 1
    exact decide_eq_decide.mpr ⟨fun z => Sum.inl.inj z, fun z => by rw [z]⟩
theorem DnI.put {k : Int} {v : V} {x : PyData} (d : Dn K G v x) {kvs : List (Int × PyData)} {ws : List (Key × V)} (h : DnI K G ws kvs) : DnI K G (putK ws (Sum.inl k) v) (putI kvs k x) := by
  have snoc : ∀ {kvs : List (Int × PyData)} {ws : List (Key × V)}, DnI K G ws kvs → DnI K G (ws ++ [(Sum.inl k, v)]) (kvs ++ [(k, x)]) := fun {kvs} => by
    induction kvs with
    | nil => intro ws h; rw [h.inv0]; exact DnI.con (p := (k, x)) d .nil
    | cons p kvs ih =>
      intro ws h
      obtain ⟨u, ws', rfl, d', t⟩ := h.inv
      exact DnI.con d' (ih t)
  have repl : ∀ {kvs : List (Int × PyData)} {ws : List (Key × V)}, DnI K G ws kvs → DnI K G (ws.map fun w => if w.1 = (Sum.inl k : Key) then (w.1, v) else w) (kvs.map fun p => if p.1 = k then (p.1, x) else p) := fun {kvs} => by
    induction kvs with
    | nil => intro ws h; rw [h.inv0]; exact .nil
    | cons p kvs ih =>
      intro ws h
      obtain ⟨u, ws', rfl, d', t⟩ := h.inv
      rw [List.map_cons, List.map_cons]
      by_cases q : p.1 = k
      · rw [if_pos q, if_pos (by simp [q])]
        exact DnI.con (p := (p.1, x)) d (ih t)
      · rw [if_neg q, if_neg fun z => q (Sum.inl.inj z)]
        exact DnI.con d' (ih t)
  unfold putK putI
  rw [h.any k]
  split
  · exact repl h
  · exact snoc h
/-- what is one's own is locked for good: data from now on -/
theorem Rel.frz {c : Cell} {l : List Addr} {x : PyData} {u : HO} {od : Obj} (R : Rel K B G δ σ H) (h : δ[i]? = some c) (hl : c.fp = a :: l) (ha : H a = some u) (hσ : σ[i]? = some (some (.ref a)))
    (dn : ∀ G', Same G G' → G' a = some (.frz od u) → (∀ b ∈ l, b ≠ a → G' b = H b) → Dn K G' (.ref a) x) : ∃ G', Same G G' ∧ Rel K B G' (δ.set i (.d x)) σ (upd H a (.frz od u)) ∧ Dn K G' (.ref a) x := by
  have get : ∀ {j : Nat} {y : Cell}, (δ.set i (.d x))[j]? = some y → (j = i ∧ y = .d x) ∨ (j ≠ i ∧ δ[j]? = some y) := fun {j y} e => by
    by_cases hj : j = i
    · subst hj
      rw [List.getElem?_set_self (List.getElem?_eq_some_iff.mp h).1] at e; cases e; exact .inl ⟨rfl, rfl⟩
    · rw [List.getElem?_set_ne (Ne.symm hj)] at e; exact .inr ⟨hj, e⟩
  obtain ⟨G', hG⟩ : ∃ G' : Hp, G' = fun b => if b = a then some (.frz od u) else if b ∈ l then H b else G b := ⟨_, rfl⟩
  have ga : G' a = some (.frz od u) := by rw [hG]; simp
  have gl : ∀ b ∈ l, b ≠ a → G' b = H b := fun b hb n => by rw [hG]; simp [n, hb]
  have go : ∀ b, b ∉ c.fp → G' b = G b := fun b n => by
    rw [hl] at n
    have n1 : b ≠ a := fun z => n (by rw [z]; simp)
    have n2 : b ∉ l := fun z => n (by simp [z])
    rw [hG]
    simp [n1, n2]
  have am : a ∈ c.fp := by rw [hl]; simp
  have ng : ∀ {b : Addr} {o : HO}, G b = some o → b ∉ c.fp := fun {b o} e m => by rw [(R.fr i _ b h m).1] at e; cases e
  have nb : ∀ {b : Addr} {o : HO}, B b = some o → b ∉ c.fp := fun {b o} e m => by rw [(R.fr i _ b h m).2] at e; cases e
  have sG : Same G G' := fun b o e => by rw [go b (ng e)]; exact e
  have oc := R.ok i c _ h hσ
  refine ⟨G', sG, ⟨by simp [R.len], fun b o e => ?_, fun b o e => ?_, fun b => ?_, fun j y w e1 e2 => ?_, fun j k y z b e1 e2 m1 m2 => ?_, fun j y b e1 m => ?_, ⟨tabs_upd R.tt.t (cell_te oc am), ⟨R.tt.n.b, fun b o e ps z => ?_⟩⟩⟩, dn G' sG ga gl⟩
  · by_cases hb : b = a
    · subst hb; rw [upd_same]; rw [ga] at e; exact e
    · rw [upd_ne hb]
      by_cases m : b ∈ c.fp
      · rw [hl] at m
        rcases List.mem_cons.mp m with z | z
        · exact absurd z hb
        · rw [gl b z hb] at e; exact e
      · rw [go b m] at e; exact R.sg _ _ e
  · rw [upd_ne (fun z => nb e (by rw [z]; exact am))]; exact R.sb _ _ e
  · by_cases m : b ∈ c.fp
    · exact .inr (R.fr i _ b h m).2
    · rw [go b m]; exact R.dj b
  · rcases get e1 with ⟨rfl, rfl⟩ | ⟨hj, e1⟩
    · rw [hσ] at e2; cases e2; exact ⟨_, rfl, dn G' sG ga gl⟩
    · exact (R.ok j y w e1 e2).stay sG fun b hb => upd_ne fun z => hj (R.ap j i y _ b e1 h hb (by rw [z]; exact am))
  · rcases get e1 with ⟨_, rfl⟩ | ⟨h1, e3⟩
    · cases m1
    · rcases get e2 with ⟨_, rfl⟩ | ⟨h2, e4⟩
      · cases m2
      · exact R.ap j k y z b e3 e4 m1 m2
  · rcases get e1 with ⟨_, rfl⟩ | ⟨hj, e1⟩
    · cases m
    · obtain ⟨f1, f2⟩ := R.fr j y b e1 m
      exact ⟨by rw [go b fun z => hj (R.ap j i y _ b e1 h m z)]; exact f1, f2⟩
  · subst z
    by_cases m : b ∈ c.fp
    · rw [hl] at m
      by_cases hb : b = a
      · subst hb; rw [ga] at e; cases e
      · rcases List.mem_cons.mp m with z | z
        · exact hb z
        · rw [gl b z hb] at e
          exact (cell_te oc (by rw [hl]; exact m) _ e).1 ps rfl
    · rw [go b m] at e; exact R.tt.n.g _ _ e ps rfl
end
end DL
set_option Elab.async false
set_option linter.all false
set_option maxRecDepth 100000
set_option maxHeartbeats 4000000
namespace DL
open PySem PySem.Spec PyProof.Rows L2
variable [Tb]
/-- a name is read; what is one's own there changes no more from now on -/
def fzC : Cell → Option PyData
  | .d x => some x
  | .od _ kvs => some (dTD kvs)
  | .gx (.oi _ kvs) => some (dKD kvs)
  | .gx (.og _ gs) => some (dKD (gs.map fun g => (g.1, .list g.2.2)))
  | _ => none
def onF (c : Option Cell) (k : PyData → Prop) (_u : Stop k) : Prop := ∃ x, c.bind fzC = some x ∧ k x
omit [Tb] in
@[simp ↓] theorem onF_d (x : PyData) (k : PyData → Prop) (u : Stop k) : onF (some (.d x)) k u = k x := propext ⟨fun ⟨y, e, h⟩ => by cases e; exact h, fun h => ⟨x, rfl, h⟩⟩
omit [Tb] in
@[simp ↓] theorem onF_od (a : Addr) (kvs : List (List Int × PyData)) (k : PyData → Prop) (u : Stop k) : onF (some (.od a kvs)) k u = k (dTD kvs) := propext ⟨fun ⟨y, e, h⟩ => by cases e; exact h, fun h => ⟨_, rfl, h⟩⟩
omit [Tb] in
@[simp ↓] theorem onF_oi (a : Addr) (kvs : List (Int × PyData)) (k : PyData → Prop) (u : Stop k) : onF (some (.gx (.oi a kvs))) k u = k (dKD kvs) := propext ⟨fun ⟨y, e, h⟩ => by cases e; exact h, fun h => ⟨_, rfl, h⟩⟩
omit [Tb] in
@[simp ↓] theorem onF_og (a : Addr) (gs : List (Int × Addr × List PyData)) (k : PyData → Prop) (u : Stop k) : onF (some (.gx (.og a gs))) k u = k (dKD (gs.map fun g => (g.1, .list g.2.2))) := propext ⟨fun ⟨y, e, h⟩ => by cases e; exact h, fun h => ⟨_, rfl, h⟩⟩
def wVarF (i : Nat) : DE := fun δ R => onF δ[i]? (fun x => R (.d x) (δ.set i (.d x))) .mk
omit [Tb] in
@[simp ↓] theorem wVarF_ap (i : Nat) (δ : DS) (R : Opd → DS → Prop) : wVarF i δ R = onF δ[i]? (fun x => R (.d x) (δ.set i (.d x))) .mk := rfl
/-- what is read may be locked for good -/
def tFz (t : TE) : TE := fun σ H Q => t σ H fun x H1 => Q x H1 ∨ ∃ d u, H1 d = some u ∧ Mut (some u) ∧ ∀ od, Q x (upd H1 d (.frz od u))
section
variable {X : Cx} {e f : Expr} {pos px pos' : Pos} {x : Str} {i : Nat}
theorem pe_fz {t : TE} (h : PE X e t) : PE X e (tFz t) := by
  refine ⟨fun pins s σ H Q I hw => thn (h.run pins s σ H _ I hw) fun v s1 ⟨x, H1, I1, r, q⟩ => ?_⟩
  rcases q with q | ⟨d, u, hd, mu, q⟩
  · exact ⟨x, H1, I1, r, q⟩
  · obtain ⟨od, I2⟩ := I1.lock hd mu
    exact ⟨x, _, I2, r, q od⟩
theorem je_varF (h : PE X (.Name x pos) (tVar i)) : JE X (.Name x pos) (wVarF i) := pe_le (pe_fz h) fun pins s σ H Q I ⟨B, G, δ, R, rel, ⟨y, hy, hw⟩, k⟩ => by
  cases e : δ[i]? with
  | none => rw [e] at hy; cases hy
  | some c =>
    rw [e] at hy
    have hy : fzC c = some y := hy
    obtain ⟨o, hσ, ok⟩ := rel.at e
    have ok' := ok
    have lt := (List.getElem?_eq_some_iff.mp e).1
    cases c with
    | d z =>
      cases hy
      obtain ⟨v, rfl, dn⟩ := ok
      have es : δ.set i (.d y) = δ := by
        apply List.ext_getElem?
        intro j
        by_cases hj : j = i
        · subst hj; rw [List.getElem?_set_self lt, e]
        · rw [List.getElem?_set_ne (Ne.symm hj)]
      replace hw : R (.d y) (δ.set i (.d y)) := hw
      rw [es] at hw
      exact ⟨v, hσ, .inl (k v H G _ δ hw (Same.refl _) rel dn)⟩
    | od a kvs =>
      cases hy
      obtain ⟨rfl, ws, ha, dk⟩ := ok
      refine ⟨.ref a, hσ, .inr ⟨a, _, ha, trivial, fun od => ?_⟩⟩
      obtain ⟨G', s1, rel1, dn⟩ := rel.frz (od := od) (l := []) (x := dTD kvs) e rfl ha hσ fun G' s ga _ => .fT ga dk.1 (dk.2.mono s)
      exact k _ _ G' _ _ hw s1 rel1 dn
    | gx t =>
      cases t with
      | oi a kvs =>
        cases hy
        obtain ⟨rfl, ws, ha, dk⟩ := ok
        refine ⟨.ref a, hσ, .inr ⟨a, _, ha, trivial, fun od => ?_⟩⟩
        obtain ⟨G', s1, rel1, dn⟩ := rel.frz (od := od) (l := []) (x := dKD kvs) e rfl ha hσ fun G' s ga _ => .fK ga dk.1 (dk.2.mono s)
        exact k _ _ G' _ _ hw s1 rel1 dn
      | og a gs =>
        cases hy
        obtain ⟨rfl, nd, ha, ls⟩ := ok
        refine ⟨.ref a, hσ, .inr ⟨a, _, ha, trivial, fun od => ?_⟩⟩
        obtain ⟨G', s1, rel1, dn⟩ := rel.frz (od := od) (l := gs.map (·.2.1)) (x := dKD (gs.map fun g => (g.1, .list g.2.2))) e rfl ha hσ fun G' s ga gl => by
          refine .fK ga (by rw [List.map_map, List.map_map]; rfl) ?_
          rw [List.map_map, List.map_map]
          have nd1 := List.nodup_cons.mp nd
          have all : ∀ gs' : List (Int × Addr × List PyData), (∀ g ∈ gs', g ∈ gs) → DnL X.K G' (gs'.map fun g => V.ref g.2.1) (gs'.map fun g => PyData.list g.2.2) := fun gs' => by
            induction gs' with
            | nil => intro _; exact .nil
            | cons g gs' ih =>
              intro hs
              have hg := hs g (by simp)
              obtain ⟨vs, e1, d1⟩ := ls g hg
              have hm : g.2.1 ∈ gs.map (·.2.1) := List.mem_map.mpr ⟨g, hg, rfl⟩
              exact .cons (.lst (by rw [gl _ hm fun z => nd1.1 (by rw [← z]; exact hm)]; exact e1) (d1.mono s)) (ih fun g' h' => hs g' (by simp [h']))
          exact all gs fun _ h => h
        exact k _ _ G' _ _ hw s1 rel1 dn
      | bu a l n f xs => cases hy
      | b0 a n => cases hy
    | _ => cases hy
end
omit [Tb] in
theorem dKD_inj {kvs kws : List (Int × PyData)} (h : dKD kvs = dKD kws) : kvs = kws := by
  replace h := (List.cons.inj (PyData.dict.inj h)).2
  induction kvs generalizing kws with
  | nil => cases kws with
    | nil => rfl
    | cons q qs => cases h
  | cons p ps ih => cases kws with
    | nil => cases h
    | cons q qs =>
      rw [List.map_cons, List.map_cons] at h
      obtain ⟨h1, h2⟩ := List.cons.inj h
      have e1 := PyData.int.inj (Prod.mk.inj h1).1
      have e2 := (Prod.mk.inj h1).2
      rw [ih h2, show p = q from Prod.ext e1 e2]
omit [Tb] in
theorem dTD_inj {kvs kws : List (List Int × PyData)} (h : dTD kvs = dTD kws) : kvs = kws := by
  replace h := (List.cons.inj (PyData.dict.inj h)).2
  induction kvs generalizing kws with
  | nil => cases kws with
    | nil => rfl
    | cons q qs => cases h
  | cons p ps ih => cases kws with
    | nil => cases h
    | cons q qs =>
      rw [List.map_cons, List.map_cons] at h
      obtain ⟨h1, h2⟩ := List.cons.inj h
      have e1 := map_int_inj (PyData.tuple.inj (Prod.mk.inj h1).1)
      have e2 := (Prod.mk.inj h1).2
      rw [ih h2, show p = q from Prod.ext e1 e2]
def dkC (c : Option Cell) (k : List (Int × PyData) → Prop) (_u : Stop k) : Prop := ∃ kvs, ((∃ a, c = some (.gx (.oi a kvs))) ∨ c = some (.d (dKD kvs))) ∧ k kvs
omit [Tb] in
@[simp ↓] theorem dkC_oi (a : Addr) (kvs : List (Int × PyData)) (k : List (Int × PyData) → Prop) (u : Stop k) : dkC (some (.gx (.oi a kvs))) k u = k kvs :=
  propext ⟨fun ⟨ks, e, h⟩ => by rcases e with ⟨_, e⟩ | e <;> cases e; exact h, fun h => ⟨kvs, .inl ⟨a, rfl⟩, h⟩⟩
omit [Tb] in
@[simp ↓] theorem dkC_d (kvs : List (Int × PyData)) (k : List (Int × PyData) → Prop) (u : Stop k) : dkC (some (.d (dKD kvs))) k u = k kvs :=
  propext ⟨fun ⟨ks, e, h⟩ => by
    rcases e with ⟨_, e⟩ | e
    · cases e
    · rw [dKD_inj (Cell.d.inj (Option.some.inj e))]; exact h, fun h => ⟨kvs, .inr rfl, h⟩⟩
def isDk (δ : DS) (i : Nat) : Prop := ∃ kvs, (∃ a, δ[i]? = some (.gx (.oi a kvs))) ∨ δ[i]? = some (.d (dKD kvs))
omit [Tb] in
@[simp ↓] theorem isDk_oi (a : Addr) (kvs : List (Int × PyData)) (δ : DS) (i : Nat) (h : δ[i]? = some (.gx (.oi a kvs))) : isDk δ i = True := eq_true ⟨kvs, .inl ⟨a, h⟩⟩
omit [Tb] in
@[simp ↓] theorem isDk_d (kvs : List (Int × PyData)) (δ : DS) (i : Nat) (h : δ[i]? = some (.d (dKD kvs))) : isDk δ i = True := eq_true ⟨kvs, .inr h⟩
omit [Tb] in
@[simp ↓] theorem varC_gx (t : GX) (i : Nat) (k : Opd → Prop) (u : Stop k) : varC (some (.gx t)) i k u = k (.s i) := rfl
omit [Tb] in
@[simp] theorem sameIo_gx (t : GX) (cs : List Cell) (e : Cell) (δ : DS) : sameIo (.gx t :: cs) (e :: δ) = ((∃ u, e = .gx u ∧ u.hd = t.hd) ∧ sameIo cs δ) := rfl
omit [Tb] in
@[simp] theorem outC_gx (t : GX) (cs : List Cell) (e : Cell) (δ : DS) : outC (.gx t :: cs) (e :: δ) = e :: outC cs δ := rfl
omit [Tb] in
@[simp ↓] theorem hd_oi (a : Addr) (kvs : List (Int × PyData)) : (GX.oi a kvs).hd = a := rfl
omit [Tb] in
@[simp ↓] theorem hd_og (a : Addr) (gs : List (Int × Addr × List PyData)) : (GX.og a gs).hd = a := rfl
omit [Tb] in
@[simp ↓] theorem hd_bu (a l : Addr) (n f : Str) (xs : List PyData) : (GX.bu a l n f xs).hd = a := rfl
omit [Tb] in
@[simp ↓] theorem hd_b0 (a : Addr) (n : Str) : (GX.b0 a n).hd = a := rfl
section
variable {K : PySem.W.Frag} {B G H : Hp} {δ : DS} {σ : L2.St} {i : Nat} {kvs : List (Int × PyData)}
end
end DL
set_option Elab.async false
set_option linter.all false
set_option maxRecDepth 100000
set_option maxHeartbeats 4000000
namespace DL
open PySem PySem.Spec PyProof.Rows L2
variable [Tb]
def wIIn (i : Nat) (w : DE) : DE := fun δ R => w δ fun o δ1 => use o δ1 fun x => asI x (fun k => dkC δ1[i]? (fun kvs => R (.d (.bool (valI kvs k).isSome)) δ1) .mk) .mk
def wINotIn (i : Nat) (w : DE) : DE := fun δ R => w δ fun o δ1 => use o δ1 fun x => asI x (fun k => dkC δ1[i]? (fun kvs => R (.d (.bool (!(valI kvs k).isSome))) δ1) .mk) .mk
def wIGet (i : Nat) (w : DE) : DE := fun δ R => isDk δ i ∧ w δ fun o δ1 => use o δ1 fun x => asI x (fun k => dkC δ1[i]? (fun kvs => onS (valI kvs k) (fun y => R (.d y) δ1) .mk) .mk) .mk
def wIGetC (i : Nat) (w u : DE) : DE := fun δ R => isDk δ i ∧ w δ fun o δ1 => u δ1 fun o2 δ2 => use o δ2 fun x => asI x (fun k => lk o2 δ2 fun y δ3 => dkC δ3[i]? (fun kvs => R (.d ((valI kvs k).getD y)) δ3) .mk) .mk
def oiC (c : Option Cell) (k : Addr → List (Int × PyData) → Prop) (_u : Stop k) : Prop := ∃ a kvs, c = some (.gx (.oi a kvs)) ∧ k a kvs
def isOi (δ : DS) (i : Nat) : Prop := ∃ a kvs, δ[i]? = some (.gx (.oi a kvs))
def wIPut (i : Nat) (wk wv : DE) : DTS := fun E δ => isOi δ i ∧ wv δ fun o δ1 => lk o δ1 fun x δ2 => wk δ2 fun o2 δ3 => use o2 δ3 fun y => asI y (fun k => oiC δ3[i]? (fun a kvs => kvs.length ≤ 2000000 ∧ E.nx (δ3.set i (.gx (.oi a (putI kvs k x))))) .mk) .mk
/-- {}, {k: v} -/
def mDI : DM := fun δ R => ∀ a, R (.gx (.oi a [])) δ
def mDG : DM := fun δ R => ∀ a, R (.gx (.og a [])) δ
def mDI1 (wk wv : DE) : DM := fun δ R => wk δ fun o δ1 => use o δ1 fun x => asI x (fun k => wv δ1 fun o2 δ2 => lk o2 δ2 fun y δ3 => ∀ a, R (.gx (.oi a [(k, y)])) δ3) .mk
omit [Tb] in
@[simp ↓] theorem wIIn_ap (i : Nat) (w : DE) (δ : DS) (R : Opd → DS → Prop) : wIIn i w δ R = (w δ fun o δ1 => use o δ1 fun x => asI x (fun k => dkC δ1[i]? (fun kvs => R (.d (.bool (valI kvs k).isSome)) δ1) .mk) .mk) := rfl
omit [Tb] in
@[simp ↓] theorem wINotIn_ap (i : Nat) (w : DE) (δ : DS) (R : Opd → DS → Prop) : wINotIn i w δ R = (w δ fun o δ1 => use o δ1 fun x => asI x (fun k => dkC δ1[i]? (fun kvs => R (.d (.bool (!(valI kvs k).isSome))) δ1) .mk) .mk) := rfl
omit [Tb] in
@[simp ↓] theorem wIGet_ap (i : Nat) (w : DE) (δ : DS) (R : Opd → DS → Prop) : wIGet i w δ R = (isDk δ i ∧ w δ fun o δ1 => use o δ1 fun x => asI x (fun k => dkC δ1[i]? (fun kvs => onS (valI kvs k) (fun y => R (.d y) δ1) .mk) .mk) .mk) := rfl
omit [Tb] in
@[simp ↓] theorem wIGetC_ap (i : Nat) (w u : DE) (δ : DS) (R : Opd → DS → Prop) : wIGetC i w u δ R = (isDk δ i ∧ w δ fun o δ1 => u δ1 fun o2 δ2 => use o δ2 fun x => asI x (fun k => lk o2 δ2 fun y δ3 => dkC δ3[i]? (fun kvs => R (.d ((valI kvs k).getD y)) δ3) .mk) .mk) := rfl
omit [Tb] in
@[simp ↓] theorem wIPut_ap (i : Nat) (wk wv : DE) (E : DEnds) (δ : DS) : wIPut i wk wv E δ = (isOi δ i ∧ wv δ fun o δ1 => lk o δ1 fun x δ2 => wk δ2 fun o2 δ3 => use o2 δ3 fun y => asI y (fun k => oiC δ3[i]? (fun a kvs => kvs.length ≤ 2000000 ∧ E.nx (δ3.set i (.gx (.oi a (putI kvs k x))))) .mk) .mk) := rfl
omit [Tb] in
@[simp ↓] theorem mDI_ap (δ : DS) (R : Cell → DS → Prop) : mDI δ R = ∀ a, R (.gx (.oi a [])) δ := rfl
omit [Tb] in
@[simp ↓] theorem mDG_ap (δ : DS) (R : Cell → DS → Prop) : mDG δ R = ∀ a, R (.gx (.og a [])) δ := rfl
omit [Tb] in
@[simp ↓] theorem mDI1_ap (wk wv : DE) (δ : DS) (R : Cell → DS → Prop) : mDI1 wk wv δ R = (wk δ fun o δ1 => use o δ1 fun x => asI x (fun k => wv δ1 fun o2 δ2 => lk o2 δ2 fun y δ3 => ∀ a, R (.gx (.oi a [(k, y)])) δ3) .mk) := rfl
omit [Tb] in
@[simp ↓] theorem oiC_oi (a : Addr) (kvs : List (Int × PyData)) (k : Addr → List (Int × PyData) → Prop) (u : Stop k) : oiC (some (.gx (.oi a kvs))) k u = k a kvs :=
  propext ⟨fun ⟨b, ks, e, h⟩ => by cases e; exact h, fun h => ⟨a, kvs, rfl, h⟩⟩
omit [Tb] in
@[simp ↓] theorem isOi_oi (a : Addr) (kvs : List (Int × PyData)) (δ : DS) (i : Nat) (h : δ[i]? = some (.gx (.oi a kvs))) : isOi δ i = True := eq_true ⟨a, kvs, h⟩
section
variable {X : Cx} {e f : Expr} {pos pos' px apos cpos : Pos} {x : Str} {i : Nat}
omit [Tb] in
theorem u65' {X : Cx} (hu : X.A.units + 64 < cLine) : X.A.units + 1 < cLine := Nat.lt_of_le_of_lt (Nat.add_le_add_left (by decide : 1 ≤ 64) _) hu
theorem DnI.some {K : PySem.W.Frag} {G : Hp} {ws : List (Key × V)} {kvs : List (Int × PyData)} (d : DnI K G ws kvs) (k : Int) : (valV ws (Sum.inl k)).isSome = (valI kvs k).isSome := by
  rcases d.val k with ⟨q1, q2⟩ | ⟨x, v, q1, q2, _⟩ <;> rw [q1, q2] <;> rfl
end
end DL
set_option Elab.async false
set_option linter.all false
set_option maxRecDepth 100000
set_option maxHeartbeats 4000000
namespace DL
open PySem PySem.Spec PyProof.Rows L2
variable [Tb]
section
variable {X : Cx} {e f : Expr} {pos pos' px p1 apos cpos : Pos} {x : Str} {i : Nat}
end
abbrev Gs := List (Int × Addr × List PyData)
def firstG (gs : Gs) (n : Int) : Option (Addr × List PyData) := (gs.find? fun g => decide (g.1 = n)).map (·.2)
def putG (gs : Gs) (n : Int) (l : Addr) : Gs := if (firstG gs n).isSome then gs else gs ++ [(n, l, [])]
def appG : Gs → Int → PyData → Gs
  | [], _, _ => []
  | g :: gs, n, y => if g.1 = n then (g.1, g.2.1, g.2.2 ++ [y]) :: gs else g :: appG gs n y
def ogC (c : Option Cell) (k : Addr → Gs → Prop) (_u : Stop k) : Prop := ∃ a gs, c = some (.gx (.og a gs)) ∧ k a gs
omit [Tb] in
@[simp ↓] theorem ogC_og (a : Addr) (gs : Gs) (k : Addr → Gs → Prop) (u : Stop k) : ogC (some (.gx (.og a gs))) k u = k a gs :=
  propext ⟨fun ⟨b, ks, e, h⟩ => by cases e; exact h, fun h => ⟨a, gs, rfl, h⟩⟩
def isOg (δ : DS) (i : Nat) : Prop := ∃ a gs, δ[i]? = some (.gx (.og a gs))
omit [Tb] in
@[simp ↓] theorem isOg_og (a : Addr) (gs : Gs) (δ : DS) (i : Nat) (h : δ[i]? = some (.gx (.og a gs))) : isOg δ i = True := eq_true ⟨a, gs, h⟩
def wGApp (i : Nat) (wk wv : DE) : DTS := fun E δ => isOg δ i ∧ wk δ fun o δ1 => use o δ1 fun x => asI x (fun n => ogC δ1[i]? (fun a gs => (gs.length ≤ 1000000 ∧ ∀ g ∈ gs, g.2.2.length ≤ 1000000) ∧ ∀ l, wv (δ1.set i (.gx (.og a (putG gs n l)))) fun o2 δ2 => lk o2 δ2 fun y δ3 => δ3[i]? = some (.gx (.og a (putG gs n l))) ∧ E.nx (δ3.set i (.gx (.og a (appG (putG gs n l) n y))))) .mk) .mk
omit [Tb] in
@[simp ↓] theorem wGApp_ap (i : Nat) (wk wv : DE) (E : DEnds) (δ : DS) : wGApp i wk wv E δ = (isOg δ i ∧ wk δ fun o δ1 => use o δ1 fun x => asI x (fun n => ogC δ1[i]? (fun a gs => (gs.length ≤ 1000000 ∧ ∀ g ∈ gs, g.2.2.length ≤ 1000000) ∧ ∀ l, wv (δ1.set i (.gx (.og a (putG gs n l)))) fun o2 δ2 => lk o2 δ2 fun y δ3 => δ3[i]? = some (.gx (.og a (putG gs n l))) ∧ E.nx (δ3.set i (.gx (.og a (appG (putG gs n l) n y))))) .mk) .mk) := rfl
section
variable {K : PySem.W.Frag} {B G H : Hp} {δ : DS} {σ : L2.St} {i : Nat}
end
section
variable {X : Cx} {e f : Expr} {pos px p1 p2 apos cpos apos' cpos' : Pos} {x : Str} {i : Nat}
end
end DL
set_option Elab.async false
set_option linter.all false
set_option maxRecDepth 100000
set_option maxHeartbeats 4000000
namespace DL
open PySem PySem.Spec PyProof.Rows L2
variable [Tb]
def obD (n : Str) (fs : List (Str × PyData)) : PyData := objD n fs
def putD1 (f : Str) (x : PyData) : List (Str × PyData) → List (Str × PyData)
  | [] => [(f, x)]
  | (g, y) :: r => if g = f then (g, x) :: r else (g, y) :: putD1 f x r
section
variable {K : PySem.W.Frag} {G : Hp}
/-- fields and what they stand for -/
def FldOk (K : PySem.W.Frag) (G : Hp) (ws : List (Str × V)) (fs : List (Str × PyData)) : Prop := ws.map (·.1) = fs.map (·.1) ∧ DnL K G (ws.map (·.2)) (fs.map (·.2))
theorem FldOk.nil : FldOk K G [] [] := ⟨rfl, .nil⟩
theorem FldOk.split {w : Str × V} {ws : List (Str × V)} {p : Str × PyData} {fs : List (Str × PyData)} (h : FldOk K G (w :: ws) (p :: fs)) : w.1 = p.1 ∧ Dn K G w.2 p.2 ∧ FldOk K G ws fs := by
  obtain ⟨h1, h2⟩ := h
  simp only [List.map_cons, List.cons.injEq] at h1 h2
  cases h2 with
  | cons a b => exact ⟨h1.1, a, h1.2, b⟩
theorem FldOk.join {w : Str × V} {ws : List (Str × V)} {p : Str × PyData} {fs : List (Str × PyData)} (h1 : w.1 = p.1) (h2 : Dn K G w.2 p.2) (h3 : FldOk K G ws fs) : FldOk K G (w :: ws) (p :: fs) := by
  refine ⟨?_, ?_⟩
  · simp only [List.map_cons, h1, h3.1]
  · exact .cons h2 h3.2
theorem FldOk.look {f : Str} {y : PyData} : ∀ {ws : List (Str × V)} {fs : List (Str × PyData)}, FldOk K G ws fs → fs.lookup f = some y → ∃ v, ws.lookup f = some v ∧ Dn K G v y
  | [], [], _, e => by cases e
  | [], _ :: _, h, _ => by cases h.1
  | _ :: _, [], h, _ => by cases h.1
  | (a, v) :: ws, (b, x) :: fs, h, e => by
    obtain ⟨h1, h2, h3⟩ := h.split
    have h1 : a = b := h1
    subst h1
    rw [List.lookup_cons] at e ⊢
    cases hb : f == a with
    | true => rw [hb] at e; cases e; exact ⟨v, rfl, h2⟩
    | false => rw [hb] at e; exact FldOk.look h3 e
theorem FldOk.none {f : Str} : ∀ {ws : List (Str × V)} {fs : List (Str × PyData)}, FldOk K G ws fs → fs.lookup f = none → ws.lookup f = none
  | [], [], _, _ => rfl
  | [], _ :: _, h, _ => by cases h.1
  | _ :: _, [], h, _ => by cases h.1
  | (a, v) :: ws, (b, x) :: fs, h, e => by
    obtain ⟨h1, _, h3⟩ := h.split
    have h1 : a = b := h1
    subst h1
    rw [List.lookup_cons] at e ⊢
    cases hb : f == a with
    | true => rw [hb] at e; cases e
    | false => rw [hb] at e; exact FldOk.none h3 e
theorem FldOk.put {f : Str} {v : V} {x : PyData} (hv : Dn K G v x) : ∀ {ws : List (Str × V)} {fs : List (Str × PyData)}, FldOk K G ws fs → FldOk K G (putF f v ws) (putD1 f x fs)
  | [], [], _ => .join rfl hv .nil
  | [], _ :: _, h => by cases h.1
  | _ :: _, [], h => by cases h.1
  | (a, u) :: ws, (b, y) :: fs, h => by
    obtain ⟨h1, h2, h3⟩ := h.split
    have h1 : a = b := h1
    subst h1
    unfold putF putD1
    split
    · exact .join rfl hv h3
    · exact .join rfl h2 (FldOk.put hv h3)
theorem FldOk.len {ws : List (Str × V)} {fs : List (Str × PyData)} (h : FldOk K G ws fs) : ws.length = fs.length := by
  have := congrArg List.length h.1
  simpa using this
end
/-- an object's data, looked at -/
def obC (x : PyData) (n : Str) (k : List (Str × PyData) → Prop) (_u : Stop k) : Prop := ∃ fs, x = obD n fs ∧ k fs
def fldC (x : PyData) (n f : Str) (k : PyData → Prop) (_u : Stop k) : Prop := ∃ fs y, x = obD n fs ∧ fs.lookup f = some y ∧ k y
/-- o.f -/
def wFld (n f : Str) (w : DE) : DE := fun δ R => w δ fun o δ1 => use o δ1 fun x => fldC x n f (fun y => R (.d y) δ1) .mk
/-- an object of one's own in a slot -/
def ownC (c : Option Cell) (n : Str) (k : Addr → List (Str × PyData) → Prop) (_u : Stop k) : Prop := ∃ a fs, c = some (.ob a n fs) ∧ k a fs
def wFldO (i : Nat) (n f : Str) : DE := fun δ R => ownC δ[i]? n (fun _ fs => ∃ y, fs.lookup f = some y ∧ R (.d y) δ) .mk
/-- the target self.f -/
def gA (i : Nat) (n f : Str) : DTG := fun x δ R => ownC δ[i]? n (fun a fs => fs.length < 900 ∧ R (δ.set i (.ob a n (putD1 f x fs)))) .mk
omit [Tb] in
@[simp ↓] theorem wFld_ap (n f : Str) (w : DE) (δ : DS) (R : Opd → DS → Prop) : wFld n f w δ R = (w δ fun o δ1 => use o δ1 fun x => fldC x n f (fun y => R (.d y) δ1) .mk) := rfl
omit [Tb] in
@[simp ↓] theorem wFldO_ap (i : Nat) (n f : Str) (δ : DS) (R : Opd → DS → Prop) : wFldO i n f δ R = ownC δ[i]? n (fun _ fs => ∃ y, fs.lookup f = some y ∧ R (.d y) δ) .mk := rfl
omit [Tb] in
@[simp ↓] theorem gA_ap (i : Nat) (n f : Str) (x : PyData) (δ : DS) (R : DS → Prop) : gA i n f x δ R = ownC δ[i]? n (fun a fs => fs.length < 900 ∧ R (δ.set i (.ob a n (putD1 f x fs)))) .mk := rfl
@[simp ↓] theorem ownC_some (a : Addr) (n : Str) (fs : List (Str × PyData)) (k : Addr → List (Str × PyData) → Prop) (u : Stop k) : ownC (some (.ob a n fs)) n k u = k a fs :=
  propext ⟨fun ⟨a', fs', e, h⟩ => by cases e; exact h, fun h => ⟨a, fs, rfl, h⟩⟩
theorem obD_inj {n : Str} {fs gs : List (Str × PyData)} (h : obD n fs = obD n gs) : fs = gs := by
  unfold obD at h
  simp only [PyData.dict.injEq, List.cons.injEq, true_and] at h
  have inj : ∀ {xs ys : List (Str × PyData)}, (xs.map fun p => (PyData.str p.1, p.2)) = (ys.map fun p => (PyData.str p.1, p.2)) → xs = ys := by
    intro xs
    induction xs with
    | nil => intro ys h; cases ys with | nil => rfl | cons y ys => cases h
    | cons x xs ih =>
      intro ys h
      cases ys with
      | nil => cases h
      | cons y ys =>
        simp only [List.map_cons, List.cons.injEq, Prod.mk.injEq, PyData.str.injEq] at h
        rw [ih h.2, Prod.ext h.1.1 h.1.2]
  exact inj h
@[simp ↓] theorem obC_of {n : Str} {fs : List (Str × PyData)} {k : List (Str × PyData) → Prop} {u : Stop k} : obC (obD n fs) n k u = k fs :=
  propext ⟨fun ⟨fs', e, h⟩ => by rw [obD_inj e]; exact h, fun h => ⟨fs, rfl, h⟩⟩
theorem ObjK.uniq {K : PySem.W.Frag} {n : Str} {C D : Addr} (h : ObjK K n C) (k : PySem.W.nsIn K mainGlobals n = some (some (.ref D))) : C = D := by
  have := h.at_.symm.trans k
  cases this
  rfl
section
variable {X : Cx} {e : Expr} {f : Str} {pos : Pos} {n : Str} {C : Addr}
end
end DL
set_option Elab.async false
set_option linter.all false
set_option maxRecDepth 100000
set_option maxHeartbeats 4000000
namespace DL
open PySem PySem.Spec PyProof.Rows L2 StX
variable [Tb]
theorem RoomG.make {k : Nat} {A : Around} (r : RoomG (k + 1) A) (C : Addr) (us : List Value) (kw : List (Str × Value)) : RoomG k (A.under (.builtin "type.__call__" ⟨.ref C :: us, kw⟩)) :=
  ⟨r.rm.make C us kw, by
    simp only [Around.under, r.gd]
    rfl⟩
section
variable {X : Cx} {CX : CXT} {k : Nat} {f C : Addr} {fd : FuncData} {ps : List Str} {sp : Sp} {E : XK} {o e : Expr} {es : List Expr} {ta : TE} {t : TA} {m x : Str} {apos pos p : Pos}
end
section
variable {K : PySem.W.Frag} {B G H : Hp} {δ : DS} {σ : L2.St} {a C dx : Addr} {n : Str}
theorem opds_dn : ∀ {vs : List V} {xs : List PyData}, DnL K G vs xs → OpdsOk K G σ vs (xs.map Opd.d)
  | _, [], h => by cases h; exact .nil
  | _, _ :: _, h => by cases h with | cons a b => exact .cons a (opds_dn b)
theorem slots_d : ∀ xs : List PyData, slotsOf (xs.map Opd.d) = []
  | [] => rfl
  | _ :: xs => slots_d xs
theorem cells_d (xs : List PyData) : (xs.map Opd.d).map (cellOf δ) = xs.map Cell.d := by
  rw [List.map_map]
  rfl
end
def madeC (cs : List Cell) (n : Str) (k : List (Str × PyData) → Prop) (_u : Stop k) : Prop := ∃ a fs rest, cs = .ob a n fs :: rest ∧ k fs
@[simp ↓] theorem madeC_cons (a : Addr) (n : Str) (fs : List (Str × PyData)) (rest : List Cell) (k : List (Str × PyData) → Prop) (u : Stop k) : madeC (.ob a n fs :: rest) n k u = k fs :=
  propext ⟨fun ⟨a', fs', r', e, h⟩ => by cases e; exact h, fun h => ⟨a, fs, rest, rfl, h⟩⟩
/-- C(..) -/
def wMake (n : Str) (sp : DSp) (w : DA) : DE := fun δ R => w δ fun os δ1 => lkL os δ1 fun xs δ2 => ∀ a : Addr, ask sp (.ob a n [] :: xs.map Cell.d) (fun y cs => y = .none ∧ madeC cs n (fun fs => R (.d (obD n fs)) δ2) .mk) .mk
/-- o.m(..) -/
def wMeth (n m : Str) (sp : DSp) (w : DE) (wa : DA) : DE := fun δ R => w δ fun o δ1 => lk o δ1 fun x δ2 => obC x n (fun fs => fs.lookup m = none ∧ wa δ2 fun os δ3 => lkL os δ3 fun xs δ4 => ask sp (.d x :: xs.map Cell.d) (fun y _ => R (.d y) δ4) .mk) .mk
omit [Tb] in
@[simp ↓] theorem wMake_ap (n : Str) (sp : DSp) (w : DA) (δ : DS) (R : Opd → DS → Prop) : wMake n sp w δ R = (w δ fun os δ1 => lkL os δ1 fun xs δ2 => ∀ a : Addr, ask sp (.ob a n [] :: xs.map Cell.d) (fun y cs => y = .none ∧ madeC cs n (fun fs => R (.d (obD n fs)) δ2) .mk) .mk) := rfl
omit [Tb] in
@[simp ↓] theorem wMeth_ap (n m : Str) (sp : DSp) (w : DE) (wa : DA) (δ : DS) (R : Opd → DS → Prop) : wMeth n m sp w wa δ R = (w δ fun o δ1 => lk o δ1 fun x δ2 => obC x n (fun fs => fs.lookup m = none ∧ wa δ2 fun os δ3 => lkL os δ3 fun xs δ4 => ask sp (.d x :: xs.map Cell.d) (fun y _ => R (.d y) δ4) .mk) .mk) := rfl
section
variable {X : Cx} {k : Nat} {f C : Addr} {fd : FuncData} {ps : List Str} {sp : DSp} {o e : Expr} {es : List Expr} {w : DE} {wa : DA} {n m x : Str} {apos pos p : Pos}
end
end DL
set_option Elab.async false
set_option linter.all false
set_option maxRecDepth 100000
set_option maxHeartbeats 4000000
namespace DL
open PySem PySem.Spec PyProof.Rows L2
variable [Tb]
omit [Tb] in
@[simp ↓] theorem sameIo_ob (a : Addr) (n : Str) (fs gs : List (Str × PyData)) (cs : List Cell) (δ : DS) : sameIo (.ob a n fs :: cs) (.ob a n gs :: δ) = sameIo cs δ := propext ⟨fun h => h.2, fun h => ⟨⟨gs, rfl⟩, h⟩⟩
omit [Tb] in
@[simp ↓] theorem outC_ob (a : Addr) (n : Str) (fs : List (Str × PyData)) (e : Cell) (cs : List Cell) (δ : DS) : outC (.ob a n fs :: cs) (e :: δ) = e :: outC cs δ := rfl
end DL
set_option Elab.async false
set_option linter.all false
set_option maxRecDepth 100000
set_option maxHeartbeats 4000000
namespace DL
open PySem PySem.Spec PyProof.Rows L2 StX
variable [Tb]
def obHead (o : Opd) (δ : DS) (n mn : Str) : Prop :=
  match o with
  | .d x => ∃ fs, x = obD n fs ∧ fs.lookup mn = none
  | .s i => (∃ a fs, δ[i]? = some (.ob a n fs) ∧ fs.lookup mn = none) ∨ ∃ a l f xs, δ[i]? = some (.gx (.bu a l n f xs)) ∧ (mn == f) = false
def wMethM (m : List Bool) (n mn : Str) (sp : DSp) (w : DE) (wa : DA) : DE := fun δ R => w δ fun o δ1 => obHead o δ1 n mn ∧ wa δ1 fun os δ2 => lkM m (o :: os) δ2 fun os' δ3 => (slotsOf os').Nodup ∧ ask sp (os'.map (cellOf δ3)) (fun x cs => R (.d x) (putBack os' cs δ3)) .mk
omit [Tb] in
@[simp ↓] theorem wMethM_ap (m : List Bool) (n mn : Str) (sp : DSp) (w : DE) (wa : DA) (δ : DS) (R : Opd → DS → Prop) : wMethM m n mn sp w wa δ R = (w δ fun o δ1 => obHead o δ1 n mn ∧ wa δ1 fun os δ2 => lkM m (o :: os) δ2 fun os' δ3 => (slotsOf os').Nodup ∧ ask sp (os'.map (cellOf δ3)) (fun x cs => R (.d x) (putBack os' cs δ3)) .mk) := rfl
omit [Tb] in
@[simp ↓] theorem obHead_d (x : PyData) (δ : DS) (n mn : Str) : obHead (.d x) δ n mn = obC x n (fun fs => fs.lookup mn = none) .mk := rfl
section
variable {X : Cx} {k : Nat} {f C : Addr} {fd : FuncData} {ps : List Str} {sp : DSp} {o e : Expr} {es : List Expr} {w : DE} {wa : DA} {n mn x : Str} {apos pos p : Pos} {m : List Bool}
end
def pLenD : PN := one fun x R => ∃ kvs, x = dKD kvs ∧ R (.int kvs.length)
omit [Tb] in
@[simp ↓] theorem pLenD_K (kvs : List (Int × PyData)) (R : PyData → Prop) : pLenD [dKD kvs] R = R (.int kvs.length) :=
  propext ⟨fun ⟨ks, e, h⟩ => by rw [dKD_inj e]; exact h, fun h => ⟨kvs, rfl, h⟩⟩
def wLenT (i : Nat) : DE := fun δ R => odC δ[i]? (fun _ kvs => R (.d (.int kvs.length)) δ) .mk
omit [Tb] in
@[simp ↓] theorem wLenT_ap (i : Nat) (δ : DS) (R : Opd → DS → Prop) : wLenT i δ R = odC δ[i]? (fun _ kvs => R (.d (.int kvs.length)) δ) .mk := rfl
section
variable {K : PySem.W.Frag} {G H : Hp} {v : V}
theorem dn_fT {kvs : List (List Int × PyData)} (dn : Dn K G v (dTD kvs)) : ∃ a od ws, v = .ref a ∧ G a = some (.frz od (.dT ws)) ∧ DnK K G ws kvs := by
  generalize hx : dTD kvs = x at dn
  cases dn with
  | @fT a o ws kws h e t => cases dTD_inj hx; exact ⟨a, o, ws, rfl, h, e, t⟩
  | _ => cases hx
end
theorem bor_dn {K : PySem.W.Frag} {G H : Hp} {v : V} {x : PyData} (b : Bor K G H v x) (h : ∀ xs, x ≠ .list xs) : Dn K G v x := by
  rcases b with b | ⟨_, _, xs, _, e, _⟩
  · exact b
  · exact absurd e (h xs)
section
variable {X : Cx}
def pLstK : List PyData → (List PyData → Prop) → Prop := oneL fun x R => ∃ kvs, x = dKD kvs ∧ R (kvs.map fun p => .int p.1)
end
omit [Tb] in
@[simp ↓] theorem pLstK_K (kvs : List (Int × PyData)) (R : List PyData → Prop) : pLstK [dKD kvs] R = R (kvs.map fun p => .int p.1) :=
  propext ⟨fun ⟨ks, e, h⟩ => by rw [dKD_inj e]; exact h, fun h => ⟨kvs, rfl, h⟩⟩
def wDGetC (i : Nat) (w u : DE) : DE := fun δ R => isOd δ i ∧ w δ fun o δ1 => u δ1 fun o2 δ2 => use o δ2 fun x => keyOf x (fun k => lk o2 δ2 fun y δ3 => odC δ3[i]? (fun _ kvs => R (.d ((valD kvs k).getD y)) δ3) .mk) .mk
omit [Tb] in
@[simp ↓] theorem wDGetC_ap (i : Nat) (w u : DE) (δ : DS) (R : Opd → DS → Prop) : wDGetC i w u δ R = (isOd δ i ∧ w δ fun o δ1 => u δ1 fun o2 δ2 => use o δ2 fun x => keyOf x (fun k => lk o2 δ2 fun y δ3 => odC δ3[i]? (fun _ kvs => R (.d ((valD kvs k).getD y)) δ3) .mk) .mk) := rfl
def pShr : P2 := ints2 fun i j R => 0 ≤ j ∧ R (.int (i / 2 ^ j.toNat))
omit [Tb] in
@[simp ↓] theorem pShr_i (i j : Int) (R : PyData → Prop) : pShr (.int i) (.int j) R = (0 ≤ j ∧ R (.int (i / 2 ^ j.toNat))) := rfl
section
variable {X : Cx} {e f : Expr} {pos pos' px apos cpos : Pos} {x : Str} {i : Nat}
end
end DL
set_option Elab.async false
set_option linter.all false
set_option maxRecDepth 100000
set_option maxHeartbeats 4000000
namespace DL
open PySem PySem.Spec PyProof.Rows L2 StX
variable [Tb]
section
variable {K : PySem.W.Frag} {B G H : Hp} {δ : DS} {σ : L2.St} {a : Addr} {n : Str} {C dx : Addr} {i : Nat}
/-- the slot in front is forgotten -/
theorem Rel.tail {c : Cell} {o : Option V} {cs : List Cell} {τ : L2.St} (R : Rel K B G (c :: cs) (o :: τ) H) : Rel K B G cs τ H :=
  ⟨by have := R.len; simpa using this, R.sg, R.sb, R.dj, fun i c w e1 e2 => R.ok (i + 1) c w e1 e2, fun i j c c' b e1 e2 m1 m2 => Nat.succ.inj (R.ap (i + 1) (j + 1) c c' b e1 e2 m1 m2), fun i c b e m => R.fr (i + 1) c b e m, R.tt⟩
end
def outGx (cs : List Cell) (k : GX → Prop) (_u : Stop k) : Prop := ∃ t rest, cs = .gx t :: rest ∧ k t
omit [Tb] in
@[simp ↓] theorem outGx_cons (t : GX) (rest : List Cell) (k : GX → Prop) (u : Stop k) : outGx (.gx t :: rest) k u = k t :=
  propext ⟨fun ⟨s, r, e, h⟩ => by cases e; exact h, fun h => ⟨t, rest, rfl, h⟩⟩
/-- C(), kept as one's own -/
def mMake0 (n : Str) (sp : DSp) : DM := fun δ R => ∀ a : Addr, ask sp [.gx (.b0 a n)] (fun y cs => y = .none ∧ outGx cs (fun t => R (.gx t) δ) .mk) .mk
omit [Tb] in
@[simp ↓] theorem mMake0_ap (n : Str) (sp : DSp) (δ : DS) (R : Cell → DS → Prop) : mMake0 n sp δ R = ∀ a : Addr, ask sp [.gx (.b0 a n)] (fun y cs => y = .none ∧ outGx cs (fun t => R (.gx t) δ) .mk) .mk := rfl
section
variable {X : Cx} {CX : CXT} {k : Nat} {f C : Addr} {fd : FuncData} {ps : List Str} {n x : Str} {p pos px p1 p2 apos cpos : Pos} {i : Nat} {e : Expr} {w : DE} {fl : Str}
end
def b0C (c : Option Cell) (n : Str) (k : Addr → Prop) (_u : Stop k) : Prop := ∃ a, c = some (.gx (.b0 a n)) ∧ k a
omit [Tb] in
@[simp ↓] theorem b0C_b0 (a : Addr) (n : Str) (k : Addr → Prop) (u : Stop k) : b0C (some (.gx (.b0 a n))) n k u = k a :=
  propext ⟨fun ⟨b, e, h⟩ => by cases e; exact h, fun h => ⟨a, rfl, h⟩⟩
def buC (c : Option Cell) (n f : Str) (k : Addr → Addr → List PyData → Prop) (_u : Stop k) : Prop := ∃ a l xs, c = some (.gx (.bu a l n f xs)) ∧ k a l xs
omit [Tb] in
@[simp ↓] theorem buC_bu (a l : Addr) (n f : Str) (xs : List PyData) (k : Addr → Addr → List PyData → Prop) (u : Stop k) : buC (some (.gx (.bu a l n f xs))) n f k u = k a l xs :=
  propext ⟨fun ⟨_, _, _, e, h⟩ => by cases e; exact h, fun h => ⟨a, l, xs, rfl, h⟩⟩
/-- self.f = [] -/
def wBuNew (i : Nat) (n f : Str) : DTS := fun E δ => b0C δ[i]? n (fun a => ∀ l, E.nx (δ.set i (.gx (.bu a l n f [])))) .mk
/-- o.f.append(v) -/
def wBuApp (i : Nat) (n f : Str) (w : DE) : DTS := fun E δ => buC δ[i]? n f (fun _ l0 _ => w δ fun o δ1 => lk o δ1 fun y δ2 => buC δ2[i]? n f (fun a l xs => l = l0 ∧ xs.length ≤ 1000000 ∧ E.nx (δ2.set i (.gx (.bu a l n f (xs ++ [y]))))) .mk) .mk
/-- len(o.f), tuple(o.f) -/
def wBuFn (p : PN) (i : Nat) (n f : Str) : DE := fun δ R => buC δ[i]? n f (fun _ _ xs => p [.list xs] fun z => R (.d z) δ) .mk
omit [Tb] in
@[simp ↓] theorem wBuNew_ap (i : Nat) (n f : Str) (E : DEnds) (δ : DS) : wBuNew i n f E δ = b0C δ[i]? n (fun a => ∀ l, E.nx (δ.set i (.gx (.bu a l n f [])))) .mk := rfl
omit [Tb] in
@[simp ↓] theorem wBuApp_ap (i : Nat) (n f : Str) (w : DE) (E : DEnds) (δ : DS) : wBuApp i n f w E δ = buC δ[i]? n f (fun _ l0 _ => w δ fun o δ1 => lk o δ1 fun y δ2 => buC δ2[i]? n f (fun a l xs => l = l0 ∧ xs.length ≤ 1000000 ∧ E.nx (δ2.set i (.gx (.bu a l n f (xs ++ [y]))))) .mk) .mk := rfl
omit [Tb] in
@[simp ↓] theorem wBuFn_ap (p : PN) (i : Nat) (n f : Str) (δ : DS) (R : Opd → DS → Prop) : wBuFn p i n f δ R = buC δ[i]? n f (fun _ _ xs => p [.list xs] fun z => R (.d z) δ) .mk := rfl
omit [Tb] in
@[simp ↓] theorem obHead_bu (a l : Addr) (n f mn : Str) (xs : List PyData) (δ : DS) (i : Nat) (h : δ[i]? = some (.gx (.bu a l n f xs))) : obHead (.s i) δ n mn = ((mn == f) = false) :=
  propext ⟨fun q => by
    rcases q with ⟨_, _, e, _⟩ | ⟨_, _, _, _, e, q⟩
    · rw [h] at e; cases e
    · rw [h] at e; cases e; exact q, fun q => .inr ⟨a, l, f, xs, h, q⟩⟩
section
variable {X : Cx} {C : Addr} {n x fl : Str} {pos px p1 p2 apos cpos : Pos} {i : Nat} {e : Expr} {w : DE}
end
end DL
set_option Elab.async false
set_option linter.all false
set_option maxRecDepth 100000
set_option maxHeartbeats 4000000
namespace DL
open PySem PySem.Spec PyProof.Rows L2
variable [Tb]
section
variable {P : Program} {w : World} {A : Around} {E : Value → Shared → Prop} {s : Shared}
end
def soD (x : PyData) (k : PyData → Prop) : Prop := match x with
  | .list ds => ∃ ns : List Int, ds = ns.map PyData.int ∧ ns.length ≤ 1000 ∧ (∃ D : List Int, D.length < 64 ∧ ∀ j ∈ ns, j ∈ D) ∧ ∀ L : List Int, L.Pairwise (· < ·) → (∀ j, j ∈ L ↔ j ∈ ns) → k (.list (L.map PyData.int))
  | _ => False
omit [Tb] in
@[simp ↓] theorem soD_l (ds : List PyData) (k : PyData → Prop) : soD (.list ds) k = ∃ ns : List Int, ds = ns.map PyData.int ∧ ns.length ≤ 1000 ∧ (∃ D : List Int, D.length < 64 ∧ ∀ j ∈ ns, j ∈ D) ∧ ∀ L : List Int, L.Pairwise (· < ·) → (∀ j, j ∈ L ↔ j ∈ ns) → k (.list (L.map PyData.int)) := rfl
/-- sorted(set(e)) -/
def wSoSet (w : DE) : DE := fun δ R => w δ fun o δ1 => use o δ1 fun x => soD x fun z => R (.d z) δ1
omit [Tb] in
@[simp ↓] theorem wSoSet_ap (w : DE) (δ : DS) (R : Opd → DS → Prop) : wSoSet w δ R = (w δ fun o δ1 => use o δ1 fun x => soD x fun z => R (.d z) δ1) := rfl
section
variable {X : Cx} {e : Expr} {w : DE}
end
end DL
set_option Elab.async false
set_option linter.all false
set_option maxRecDepth 100000
set_option maxHeartbeats 4000000
namespace DL
open PySem PySem.Spec PyProof.Rows L2
section
variable {X : Cx}
end
end DL
set_option Elab.async false
set_option linter.all false
set_option maxRecDepth 100000
set_option maxHeartbeats 4000000
namespace DL
open PySem PySem.Spec PyProof.Rows L2
variable [Tb]
/-- the pairs (key, value), each a tuple -/
def prK (kvs : KVs) : List PyData := kvs.map fun p => .tuple [.tuple (p.1.map PyData.int), p.2]
omit [Tb] in
theorem prK_inj : ∀ {a b : KVs}, prK a = prK b → a = b
  | [], [], _ => rfl
  | [], _ :: _, h => by cases h
  | _ :: _, [], h => by cases h
  | p :: a, q :: b, h => by
    obtain ⟨h1, h2⟩ := List.cons.inj (show PyData.tuple [.tuple (p.1.map PyData.int), p.2] :: prK a = PyData.tuple [.tuple (q.1.map PyData.int), q.2] :: prK b from h)
    obtain ⟨h3, h4⟩ := List.cons.inj (PyData.tuple.inj h1)
    rw [prK_inj h2, show p = q from Prod.ext (map_int_inj (PyData.tuple.inj h3)) (List.cons.inj h4).1]
def dOf (x : PyData) (k : KVs → Prop) (_u : Stop k) : Prop := ∃ kvs, (x = .list (prK kvs) ∨ x = .tuple (prK kvs)) ∧ (kvs.map (·.1)).Nodup ∧ (∀ p ∈ kvs, p.1 ≠ []) ∧ k kvs
omit [Tb] in
@[simp ↓] theorem dOf_l (kvs : KVs) (k : KVs → Prop) (u : Stop k) : dOf (.list (prK kvs)) k u = ((kvs.map (·.1)).Nodup ∧ (∀ p ∈ kvs, p.1 ≠ []) ∧ k kvs) :=
  propext ⟨fun ⟨ks, e, h⟩ => e.elim (fun e => by rw [prK_inj (PyData.list.inj e)]; exact h) (fun e => nomatch e), fun h => ⟨kvs, .inl rfl, h⟩⟩
omit [Tb] in
@[simp ↓] theorem dOf_t (kvs : KVs) (k : KVs → Prop) (u : Stop k) : dOf (.tuple (prK kvs)) k u = ((kvs.map (·.1)).Nodup ∧ (∀ p ∈ kvs, p.1 ≠ []) ∧ k kvs) :=
  propext ⟨fun ⟨ks, e, h⟩ => e.elim (fun e => nomatch e) (fun e => by rw [prK_inj (PyData.tuple.inj e)]; exact h), fun h => ⟨kvs, .inr rfl, h⟩⟩
section
variable {X : Cx}
/-- a dict of pairs, looked at alone -/
def pDictF : PN := one fun x R => dOf x (fun kvs => R (dTD kvs)) .mk
/-- .. one's own -/
def mDict (w : DA) : DM := fun δ R => w δ fun os δ1 => useL os δ1 fun xs => one (fun x _ => dOf x (fun kvs => ∀ a, R (.od a kvs) δ1) .mk) xs (fun _ => True)
def dtC (c : Option Cell) (k : KVs → Prop) (_u : Stop k) : Prop := ∃ kvs, ((∃ a, c = some (.od a kvs)) ∨ c = some (.d (dTD kvs))) ∧ k kvs
omit [Tb] in
@[simp ↓] theorem dtC_d (kvs : KVs) (k : KVs → Prop) (u : Stop k) : dtC (some (.d (dTD kvs))) k u = k kvs :=
  propext ⟨fun ⟨ks, e, h⟩ => e.elim (fun ⟨_, e⟩ => nomatch e) (fun e => by rw [dTD_inj (Cell.d.inj (Option.some.inj e))]; exact h), fun h => ⟨kvs, .inr rfl, h⟩⟩
omit [Tb] in
@[simp ↓] theorem dtC_od (a : Addr) (kvs : KVs) (k : KVs → Prop) (u : Stop k) : dtC (some (.od a kvs)) k u = k kvs :=
  propext ⟨fun ⟨ks, e, h⟩ => e.elim (fun ⟨_, e⟩ => by cases e; exact h) (fun e => nomatch e), fun h => ⟨kvs, .inl ⟨a, rfl⟩, h⟩⟩
theorem dt_atK {K : PySem.W.Frag} {B G H : Hp} {δ : DS} {σ : L2.St} {i : Nat} {kvs : KVs} (rel : Rel K B G δ σ H) (h : (∃ a, δ[i]? = some (.od a kvs)) ∨ δ[i]? = some (.d (dTD kvs))) : ∃ a ws, σ[i]? = some (some (.ref a)) ∧ Rd H a (.dT ws) ∧ DnK K G ws kvs := by
  rcases h with ⟨a, h⟩ | h
  · obtain ⟨o, hσ, rfl, ws, ha, dk⟩ := rel.at h
    exact ⟨a, ws, hσ, .inl ha, dk⟩
  · obtain ⟨o, hσ, v, rfl, dn⟩ := rel.at h
    obtain ⟨a, od, ws, rfl, ga, dk⟩ := dn_fT dn
    exact ⟨a, ws, hσ, .inr ⟨od, rel.sg _ _ ga⟩, dk⟩
variable {e f : Expr} {pos pos' px apos cpos : Pos} {x : Str} {i : Nat}
def wTGet (i : Nat) (w : DE) : DE := fun δ R => dtC δ[i]? (fun _ => True) .mk ∧ w δ fun o δ1 => use o δ1 fun x => keyOf x (fun k => dtC δ1[i]? (fun kvs => onS (valD kvs k) (fun y => R (.d y) δ1) .mk) .mk) .mk
def wTGetC (i : Nat) (w u : DE) : DE := fun δ R => dtC δ[i]? (fun _ => True) .mk ∧ w δ fun o δ1 => u δ1 fun o2 δ2 => use o δ2 fun x => keyOf x (fun k => lk o2 δ2 fun y δ3 => dtC δ3[i]? (fun kvs => R (.d ((valD kvs k).getD y)) δ3) .mk) .mk
theorem dget_t {H : Hp} {a b : Addr} {ws : List (List Key × V)} {k : List Key} (e : Rd H a (.dT ws)) (eb : H b = some (.tup (k.map kV))) : DGet H a (.ref b) (valV ws k) := .inr ⟨ws, k, b, e, rfl, eb, rfl⟩
theorem je_tget (hu : X.A.units + 64 < cLine) {w : DE} (he : JE X e w) (hx : PE X (.Name x px) (tVar i)) (hs : NoSl e := by exact fun _ _ => rfl) : JE X (.Subscript (.Name x px) e pos) (wTGet i w) :=
  pe_le (pe_dget (u65' hu) hx he hs) fun pins s σ H Q I ⟨B, G, δ, R, rel, ⟨⟨k0, h0, _⟩, hw⟩, k⟩ => by
    obtain ⟨a0, ws0, hσ0, _, _⟩ := dt_atK rel h0
    refine ⟨.ref a0, hσ0, B, G, δ, _, rel, hw, fun v H1 G1 o δ1 r1 s1 rel1 ok1 => ?_⟩
    obtain ⟨y, ⟨ns, rfl, n0, kvs, hδ, q⟩, b1⟩ := use_ok rel1 ok1 r1
    obtain ⟨p, rfl, hp⟩ := key_at rel1 b1 n0
    obtain ⟨a, ws, hσ, ha, dk⟩ := dt_atK rel1 hδ
    rw [hσ] at hσ0; cases hσ0
    rcases dk.val ns with ⟨q1, q2⟩ | ⟨x, v, q1, q2, dn⟩
    · rw [q1] at q
      exact False.elim (by simp [onS] at q)
    · rw [q1] at q
      exact ⟨_, v, rfl, by rw [← q2]; exact dget_t ha hp, k v H1 G1 (.d x) δ1 (by simpa [onS] using q) s1 rel1 dn⟩
def wTIn (i : Nat) (w : DE) : DE := fun δ R => w δ fun o δ1 => use o δ1 fun x => keyOf x (fun k => dtC δ1[i]? (fun kvs => R (.d (.bool (valD kvs k).isSome)) δ1) .mk) .mk
def wTNotIn (i : Nat) (w : DE) : DE := fun δ R => w δ fun o δ1 => use o δ1 fun x => keyOf x (fun k => dtC δ1[i]? (fun kvs => R (.d (.bool (!(valD kvs k).isSome))) δ1) .mk) .mk
theorem DnK.some {K : PySem.W.Frag} {G : Hp} {ws : List (List Key × V)} {kvs : KVs} (d : DnK K G ws kvs) (k : List Int) : (valV ws (keyI k)).isSome = (valD kvs k).isSome := by
  rcases d.val k with ⟨q1, q2⟩ | ⟨x, v, q1, q2, _⟩ <;> rw [q1, q2] <;> rfl
theorem tnotin_up {K : PySem.W.Frag} {σ : L2.St} {H : Hp} {Q : VK} {w : DE} (h : up K (wTNotIn i w) σ H Q) : tDNotIn (up K w) (tVar i) σ H Q := by
  obtain ⟨B, G, δ, R, rel, hw, k⟩ := h
  refine ⟨B, G, δ, _, rel, hw, fun v H1 G1 o δ1 r1 s1 rel1 ok1 => ?_⟩
  obtain ⟨y, ⟨ns, rfl, n0, kvs, hδ, q⟩, b1⟩ := use_ok rel1 ok1 r1
  obtain ⟨p, rfl, hp⟩ := key_at rel1 b1 n0
  obtain ⟨a, ws, hσ, ha, dk⟩ := dt_atK rel1 hδ
  refine ⟨.ref a, hσ, a, _, rfl, dget_t ha hp, ?_⟩
  rw [dk.some]
  exact k _ H1 G1 _ δ1 q s1 rel1 (Dn.bl _)
theorem jt_tnotin (hu : X.A.units + 64 < cLine) {w : DE} (he : JE X e w) (hx : PE X (.Name x px) (tVar i)) (hm : behindInMarks .NotIn (.Name x px) = false := by rfl) : JT X (.Compare e [.NotIn] [.Name x px] pos) (wB (wTNotIn i w)) :=
  pt_le (pt_cmp (pc_dnotin (u65' hu) he hx) hm) fun _ _ _ _ _ _ h => tnotin_up (b_up h)
/-- k in d, k not in d, d a frozen dict -/
def dT_of (x : PyData) (k : KVs → Prop) (_u : Stop k) : Prop := ∃ kvs, x = dTD kvs ∧ k kvs
omit [Tb] in
@[simp ↓] theorem dT_of_d (kvs : KVs) (k : KVs → Prop) (u : Stop k) : dT_of (dTD kvs) k u = k kvs :=
  propext ⟨fun ⟨ks, e, h⟩ => by rw [dTD_inj e]; exact h, fun h => ⟨kvs, rfl, h⟩⟩
def pInT : P2 := fun x y R => keyOf x (fun k => dT_of y (fun kvs => R (.bool (valD kvs k).isSome)) .mk) .mk
def pNotInT : P2 := fun x y R => keyOf x (fun k => dT_of y (fun kvs => R (.bool (!(valD kvs k).isSome))) .mk) .mk
omit [Tb] in
@[simp ↓] theorem pInT_ap (x y : PyData) (R : PyData → Prop) : pInT x y R = keyOf x (fun k => dT_of y (fun kvs => R (.bool (valD kvs k).isSome)) .mk) .mk := rfl
omit [Tb] in
@[simp ↓] theorem pNotInT_ap (x y : PyData) (R : PyData → Prop) : pNotInT x y R = keyOf x (fun k => dT_of y (fun kvs => R (.bool (!(valD kvs k).isSome))) .mk) .mk := rfl
theorem in_at {pins : List (Addr × Obj)} {s : Shared} {σ σ' : L2.St} {B G H : Hp} {δ : DS} {y : V} {ns : List Int} {x : V} {kvs : KVs} (rel : Rel X.K B G δ σ' H) (bx : Bor X.K G H x (.tuple (ns.map PyData.int))) (n0 : ns ≠ []) (by' : Bor X.K G H y (dTD kvs)) :
    ∃ a, y = .ref a ∧ ∃ r, DGet H a x r ∧ r.isSome = (valD kvs ns).isSome := by
  obtain ⟨p, rfl, hp⟩ := key_at rel bx n0
  obtain ⟨a, od, ws, rfl, ga, dk⟩ := dn_fT (bor_dn by' fun _ z => nomatch z)
  refine ⟨a, rfl, _, dget_t (.inr ⟨od, rel.sg _ _ ga⟩) hp, ?_⟩
  rcases dk.val ns with ⟨q1, q2⟩ | ⟨x, v, q1, q2, _⟩ <;> rw [q1, q2] <;> rfl
theorem d_inT (hu : X.A.units + 64 < cLine) : OpD X (compareOp .In) pInT := by
  intro pins s σ H x y v u Q I rx ry ⟨B, G, δ, σ', dx, dy, R, rel, bx, by', q, k⟩
  obtain ⟨ns, rfl, n0, kvs, rfl, q⟩ := q
  obtain ⟨a, rfl, r, g, e⟩ := in_at (pins := pins) (s := s) (σ := σ) rel bx n0 by'
  cases ry
  refine L2.d_in (u65' hu) I g rx fun s' I' => ⟨.bl _, H, I', rfl, ?_⟩
  rw [e]
  exact k _ H G _ q (Same.refl _) rel (Dn.bl _)
end
omit [Tb] in
@[simp ↓] theorem pDictF_ap (x : PyData) (R : PyData → Prop) : pDictF [x] R = dOf x (fun kvs => R (dTD kvs)) .mk := rfl
omit [Tb] in
@[simp ↓] theorem wTIn_ap (i : Nat) (w : DE) (δ : DS) (R : Opd → DS → Prop) : wTIn i w δ R = (w δ fun o δ1 => use o δ1 fun x => keyOf x (fun k => dtC δ1[i]? (fun kvs => R (.d (.bool (valD kvs k).isSome)) δ1) .mk) .mk) := rfl
omit [Tb] in
@[simp ↓] theorem wTNotIn_ap (i : Nat) (w : DE) (δ : DS) (R : Opd → DS → Prop) : wTNotIn i w δ R = (w δ fun o δ1 => use o δ1 fun x => keyOf x (fun k => dtC δ1[i]? (fun kvs => R (.d (.bool (!(valD kvs k).isSome))) δ1) .mk) .mk) := rfl
omit [Tb] in
@[simp ↓] theorem wTGet_ap (i : Nat) (w : DE) (δ : DS) (R : Opd → DS → Prop) : wTGet i w δ R = (dtC δ[i]? (fun _ => True) .mk ∧ w δ fun o δ1 => use o δ1 fun x => keyOf x (fun k => dtC δ1[i]? (fun kvs => onS (valD kvs k) (fun y => R (.d y) δ1) .mk) .mk) .mk) := rfl
omit [Tb] in
@[simp ↓] theorem wTGetC_ap (i : Nat) (w u : DE) (δ : DS) (R : Opd → DS → Prop) : wTGetC i w u δ R = (dtC δ[i]? (fun _ => True) .mk ∧ w δ fun o δ1 => u δ1 fun o2 δ2 => use o δ2 fun x => keyOf x (fun k => lk o2 δ2 fun y δ3 => dtC δ3[i]? (fun kvs => R (.d ((valD kvs k).getD y)) δ3) .mk) .mk) := rfl
omit [Tb] in
@[simp ↓] theorem mDict_ap (w : DA) (δ : DS) (R : Cell → DS → Prop) : mDict w δ R = (w δ fun os δ1 => useL os δ1 fun xs => one (fun x _ => dOf x (fun kvs => ∀ a, R (.od a kvs) δ1) .mk) xs (fun _ => True)) := rfl
end DL
set_option Elab.async false
set_option linter.all false
set_option maxRecDepth 100000
set_option maxHeartbeats 4000000
namespace DL
open PySem PySem.Spec PyProof.Rows L2
section
variable {prog : Program} {w : World} {A : Around} {E : Value → Shared → Prop} {s : Shared} {T : String} {r d : Addr} {n : Nat} {P : Nat → Value → Prop} {OK : Heap → Prop} {Q : Value → Shared → Prop}
end
variable [Tb]
def keysD (kvs : KVs) : List PyData := kvs.map fun p => .tuple (p.1.map PyData.int)
def pSortedT : PN := one fun x R => dT_of x (fun kvs => W.AllAlike (keysD kvs) ∧ W.Sortable (keysD kvs) ∧ kvs.length ≤ 1000000 ∧ (∀ p ∈ kvs, p.1 ≠ []) ∧ R (.list (sortD (keysD kvs)))) .mk
omit [Tb] in
@[simp ↓] theorem pSortedT_ap (x : PyData) (R : PyData → Prop) : pSortedT [x] R = dT_of x (fun kvs => W.AllAlike (keysD kvs) ∧ W.Sortable (keysD kvs) ∧ kvs.length ≤ 1000000 ∧ (∀ p ∈ kvs, p.1 ≠ []) ∧ R (.list (sortD (keysD kvs)))) .mk := rfl
section
variable {X : Cx}
end
end DL
set_option Elab.async false
set_option linter.all false
set_option maxRecDepth 100000
set_option maxHeartbeats 4000000
namespace DL
open PySem PySem.Spec PyProof.Rows L2
mutual
theorem reads_lt {h : Heap} : ∀ {v : Value} {d : PyData} {as : List Addr}, Reads h v d as → ∀ a ∈ as, a < h.objs.size
  | _, _, _, .none => fun _ h => nomatch h
  | _, _, _, .bool _ => fun _ h => nomatch h
  | _, _, _, .int _ _ => fun _ h => nomatch h
  | _, _, _, .str _ _ => fun _ h => nomatch h
  | _, _, _, .list h1 h2 h3 h4 => fun a ha => by
    rcases List.mem_cons.mp ha with rfl | ha
    · exact Heap.lt_size h1
    · exact readsAll_lt h4 a ha
  | _, _, _, .tuple h1 h2 h3 h4 => fun a ha => readsAll_lt h4 a ha
  | _, _, _, .dict h1 h2 h3 h4 h5 => fun a ha => by
    rcases List.mem_append.mp ha with ha | ha
    · rcases List.mem_cons.mp ha with rfl | ha
      · exact Heap.lt_size h1
      · exact readsAll_lt h4 a ha
    · exact readsAll_lt h5 a ha
theorem readsAll_lt {h : Heap} : ∀ {vs : List Value} {ds : List PyData} {as : List Addr}, ReadsAll h vs ds as → ∀ a ∈ as, a < h.objs.size
  | _, _, _, .nil => fun _ h => nomatch h
  | _, _, _, .cons h1 h2 => fun a ha => by
    rcases List.mem_append.mp ha with ha | ha
    · exact reads_lt h1 a ha
    · exact readsAll_lt h2 a ha
end
section
variable {prog : Program} {w : World} {A : Around} {E : Value → Shared → Prop} {s : Shared} {Q : Value → Shared → Prop}
end
variable [Tb]
def pSortedU : PN := one fun x R => match x with
  | .tuple ds => W.AllAlike ds ∧ W.Sortable ds ∧ ds.length ≤ 1000000 ∧ (∀ d ∈ ds, d.depth ≤ 50) ∧ R (.list (sortD ds))
  | _ => False
omit [Tb] in
@[simp ↓] theorem pSortedU_t (ds : List PyData) (R : PyData → Prop) : pSortedU [.tuple ds] R = (W.AllAlike ds ∧ W.Sortable ds ∧ ds.length ≤ 1000000 ∧ (∀ d ∈ ds, d.depth ≤ 50) ∧ R (.list (sortD ds))) := rfl
section
variable {X : Cx}
end
end DL
set_option Elab.async false
set_option linter.all false
set_option maxRecDepth 100000
set_option maxHeartbeats 4000000
namespace DL
open PySem PySem.Spec PyProof.Rows L2
variable [Tb]
def pSumT : PN := one fun x R => match x with
  | .tuple ds => onIs ds (fun ns => R (.int ns.sum)) .mk
  | _ => False
omit [Tb] in
@[simp ↓] theorem pSumT_t (ds : List PyData) (R : PyData → Prop) : pSumT [.tuple ds] R = onIs ds (fun ns => R (.int ns.sum)) .mk := rfl
section
variable {X : Cx}
end
end DL
set_option Elab.async false
set_option linter.all false
set_option maxRecDepth 100000
set_option maxHeartbeats 4000000
namespace DL
open PySem PySem.Spec PyProof.Rows L2 NdefX

/-- its words; the body is an expression, the suite stays empty -/
abbrev lamF (qual : Str) (params : Arguments) (scope : Scope) (cl : List (Str × Addr)) (c : Addr) : NF := ⟨"<lambda>", qual ++ "<lambda>", params, [], scope, cl, c⟩
/-- its object -/
abbrev lamO (F : NF) (body : Expr) (pm ctv : Value) : Obj := PySem.W.kla_obj F.name F.qual F.params body F.scope F.cl pm F.c ctv
/-- its parameters are bound by place -/
abbrev LamB (F : NF) (body : Expr) (ps : List Str) : Prop := ∀ (pm cv ctv : Value) (us : List Value), us.length = ps.length → bindArgs (PySem.W.kla_fn F.name F.qual F.params body F.scope F.cl pm cv ctv) ⟨us, []⟩ = pure (ps.zip us)
section
variable {P : Program} {w : World} {K : PySem.W.Frag} {mg : Str → Option Value} {base : Heap} {N ps fr : List Str} {F : NF} {f : Addr} {k : Nat} {body : Expr} {tb : TE}
/-- the call itself -/
theorem code_lam {A : Around} {outer : List Env} {s : Shared} {H : Hp} {us : List Value} {vs : List V} {ws : List (Option V)} {pm ctv : Value} {Q : VK} (S : NScope N ps fr F.scope) (room : RoomG (k + 1) A) (e0 : Env0 P w K mg base A outer s H)
    (ho : s.heap.get? f = some (lamO F body pm ctv)) (hc : H F.c = some (LamX.CodeO F.c F.qual)) (C : CellsAt F.cl fr ws s.heap H) (r : Vals vs us) (hl : vs.length = ps.length) (hb : LamB F body ps)
    (hbody : PE (ncx CX0 P w K mg base N F f A outer s H E0) body tb) (h : tb (startF N vs ws) H Q) :
    codeAny (model P w) A (.call (.ref f) ⟨us, []⟩) (CR CX0 outer P w H s Q E0) s := by
  have lim : s.heap.NoLimit := e0.mod.nolimit.keeps fun b o e => (e0.bs b o e).1
  refine PySem.W.kla_callFunE room.rm.depth ho rfl S.co S.gen rfl (codeO_at e0.hok hc) ?_
  rw [hb _ _ _ us (r.length ▸ hl)]
  refine wpAny_pure (wpAny_newFunctionEnv S.nocell (fun ⟨n, _⟩ hy => S.par n (List.of_mem_zip hy).1) (fun h₁ hns hsb => ⟨lim.fresh _ hsb, ?_⟩) S.kind)
  show codeAny _ _ (.expr body (envF F f s.heap.objs.size)) _ _
  have kp : ∀ b o, s.heap.get? b = some o → h₁.get? b = some o := fun b o e => hsb.extBut b o (Nat.ne_of_lt (Heap.lt_size e)) (Heap.get?_push_of_some _ e)
  have I := inv_startN (CX := CX0) (E := E0) (F := F) (f := f) (tk := s.toks + (ps.zip us).length) S room.rm.hd e0 hl r C hns kp
  refine PySem.W.kla_codeExpr (wpAny_mono (hbody.run [] _ (startF N vs ws) H Q I h) ?_ fun _ _ z => z)
  rintro u z ⟨v, H', J, rv, q⟩
  exact ⟨v, H', J.os, J.bare, J.base, J.hok, rv, q⟩
end
/-- what is known of a lambda where the def that got it begins -/
structure LamAt (Z : Cx) (ps fr N : List Str) (F : NF) (f : Addr) (body : Expr) (ws : List (Option V)) : Prop where
  sc : NScope N ps fr F.scope
  obj : ∃ pm ctv, Z.s_0.heap.get? f = some (lamO F body pm ctv)
  new : Z.H_0 f = none
  nfs : f ∉ Z.fs
  ex : Z.ex = []
  cells : CellsAt F.cl fr ws Z.s_0.heap Z.H_0
  bind : LamB F body ps
section
variable {Z : Cx} {ps fr N : List Str} {F : NF} {f : Addr} {body : Expr} {ws : List (Option V)} {k i : Nat} {a : Str} {e : Expr} {es : List Expr} {ta : TA} {tb : TE} {p pos : Pos}
end
end DL
set_option Elab.async false
set_option linter.all false
set_option maxRecDepth 100000
set_option maxHeartbeats 4000000
namespace DL
open PySem PySem.Spec PyProof.Rows L2 NdefX
variable [Tb]
/-- what the lambda tells of arguments, by its body's reading: n names, m of them parameters, ds what it captured -/
def tlOf (bw : DE) (n m : Nat) (ds : List PyData) (xs : List PyData) (k : PyData → Prop) : Prop := xs.length = m ∧ bw (start0 n ((xs ++ ds).map Cell.d)) fun o δ' => lk o δ' fun y _ => k y
/-- its call: the slot i holds it -/
def wAct (i : Nat) (f : Addr) (m : Hp) (tl : List PyData → (PyData → Prop) → Prop) (wa : DA) : DE := fun δ R => δ[i]? = some (.fv f m) ∧ wa δ fun os δ1 => lkL os δ1 fun xs δ2 => tl xs fun y => R (.d y) δ2
omit [Tb] in
@[simp ↓] theorem wAct_ap (i : Nat) (f : Addr) (m : Hp) (tl : List PyData → (PyData → Prop) → Prop) (wa : DA) (δ : DS) (R : Opd → DS → Prop) : wAct i f m tl wa δ R = (δ[i]? = some (.fv f m) ∧ wa δ fun os δ1 => lkL os δ1 fun xs δ2 => tl xs fun y => R (.d y) δ2) := rfl
section
variable {K : PySem.W.Frag} {B G H : Hp} {δ : DS} {σ : L2.St}
/-- nothing of the slots is looked at any more -/
theorem Rel.bare (R : Rel K B G δ σ H) : Rel K B G [] [] H :=
  ⟨rfl, R.sg, R.sb, R.dj, fun i c o e => by simp at e, fun i j c c' a e => by simp at e, fun i c a e => by simp at e, R.tt⟩
/-- a lambda is made: its code object is known from now on -/
theorem Rel.lam {H1 : Hp} {c : Addr} {q : Str} (R : Rel K B G δ σ H) (e : LamX.ExtN H H1) (t : LamX.Tabs Tb.T H1) (hc : H1 c = some (LamX.CodeO c q)) : ∃ G1, Same G G1 ∧ G1 c = some (LamX.CodeO c q) ∧ Rel K B G1 δ σ H1 := by
  have sg : ∀ a o, G a = some o → H1 a = some o := fun a o q => e a o (R.sg a o q) (R.tt.n.g a o q)
  have sb : ∀ a o, B a = some o → H1 a = some o := fun a o q => e a o (R.sb a o q) (R.tt.n.b a o q).1
  have own : ∀ {i : Nat} {cl : Cell} {a : Addr}, δ[i]? = some cl → a ∈ cl.fp → H1 a = H a := fun {i cl a} e1 m => by
    obtain ⟨o, _, ok⟩ := R.at e1
    obtain ⟨x, ex⟩ := cell_tr ok m
    rw [ex]
    exact e a x ex (cell_te ok m x ex).1
  have bc : B c = none := by
    cases q : B c with
    | none => rfl
    | some o =>
      have := sb c o q
      rw [hc] at this
      cases this
      exact absurd rfl ((R.tt.n.b c _ q).2.1 _)
  have sG : Same G (upd G c (LamX.CodeO c q)) := fun a o h => by
    by_cases z : a = c
    · subst z
      rw [upd_same, ← sg a o h, hc]
    · rw [upd_ne z]
      exact h
  refine ⟨upd G c (LamX.CodeO c q), sG, upd_same, R.len, fun a o h => ?_, sb, fun a => ?_, fun i cl o e1 e2 => ?_, R.ap, fun i cl a e1 m => ?_, ⟨t, R.tt.n.updG fun ps z => LamX.codeO_ne ps z⟩⟩
  · by_cases z : a = c
    · subst z
      rw [upd_same] at h
      cases h
      exact hc
    · rw [upd_ne z] at h
      exact sg a o h
  · by_cases z : a = c
    · subst z
      exact .inr bc
    · rw [upd_ne z]
      exact R.dj a
  · exact (R.ok i cl o e1 e2).stay sG fun b hb => own e1 hb
  · obtain ⟨f1, f2⟩ := R.fr i cl a e1 m
    refine ⟨?_, f2⟩
    rw [upd_ne fun z => ?_]
    · exact f1
    · subst z
      obtain ⟨o, _, ok⟩ := R.at e1
      obtain ⟨x, ex⟩ := cell_tr ok m
      have := own e1 m
      rw [hc, ex] at this
      cases this
      exact absurd rfl ((cell_te ok m _ ex).2.1 _)
end
section
variable {Z : Cx} {ps fr N : List Str} {F : NF} {f : Addr} {body : Expr} {wv : List V} {ds : List PyData} {k i : Nat} {m : Hp} {a : Str} {e : Expr} {es : List Expr} {wa : DA} {bw : DE} {p pos : Pos}
end
end DL
set_option Elab.async false
set_option linter.all false
set_option maxRecDepth 100000
set_option maxHeartbeats 4000000
namespace DL
open PySem PySem.Spec PyProof.Rows L2 NdefX
variable [Tb]
abbrev LTl := List PyData → (PyData → Prop) → Prop
abbrev LSp := LTl → List PyData → (PyData → Prop) → Prop
/-- the context of its body -/
abbrev takerX (P : Program) (w : World) (K : PySem.W.Frag) (mg : Str → Option Value) (base : Heap) (N : List Str) (qual : Str) (sc : Scope) (g : Addr) (cd : Value) (A : Around) (outer : List Env) (s : Shared) (H : Hp) : Cx := (cxOf CX0 P w K mg base N qual sc g cd A outer s H E0).nox
/-- the calls of the lambda in a context: by its promise -/
def Acts (Z : Cx) (f : Addr) (m : Hp) (tl : LTl) : Prop := ∀ (i : Nat) (a : Str) (e : Expr) (es : List Expr) (wa : DA) (p pos : Pos), Z.N[i]? = some a → Vis Z.env.scope a → JA Z (e :: es) wa → (a == ("__debug__" : Str)) = false → (a == ("__classdict__" : Str)) = false →
  starEach (e :: es) Z.env = (false, eval e Z.env) :: starEach es Z.env → (backTo pos (starEach es Z.env)).any (·.1) = false → JE Z (.Call (.Name a p) (e :: es) [] pos) (wAct i f m tl wa)
/-- its promise -/
structure FnL (P : Program) (w : World) (K : PySem.W.Frag) (mg : Str → Option Value) (base : Heap) (k : Nat) (g : Addr) (fd : FuncData) (ps : List Str) (sp : LSp) : Prop where
  len : ∀ tl xs R, sp tl xs R → xs.length + 1 = ps.length
  run : ∀ (A : Around) (outer : List Env) (s : Shared) (H : Hp) (args : Args) (f : Addr) (us : List Value) (vs : List V) (m : Hp) (tl : LTl) (xs : List PyData) (R : PyData → Prop) (B G : Hp) (Q : VK), RoomG k A → Env0 P w K mg base A outer s H → BindsTo s fd args (ps.zip (.ref f :: us)) → Vals vs us →
    Rel K B G (.fv f m :: xs.map Cell.d) ((V.ref f :: vs).map some) H → (∀ (N : List Str) (qual : Str) (sc : Scope) (cd : Value), Acts (takerX P w K mg base N qual sc g cd A outer s H) f m tl) → sp tl xs R →
    (∀ v H' G' y, R y → Same G G' → Rel K B G' [] [] H' → Dn K G' v y → Q v H') → codeAny (model P w) A (.call (.ref g) args) (CR CX0 outer P w H s Q E0) s
section
variable {P : Program} {w : World} {K : PySem.W.Frag} {mg : Str → Option Value} {base : Heap}
theorem FnL.mono {j k : Nat} {g : Addr} {fd : FuncData} {ps : List Str} {sp : LSp} (F : FnL P w K mg base j g fd ps sp) (h : j ≤ k) : FnL P w K mg base k g fd ps sp :=
  ⟨F.len, fun A outer s H args f us vs m tl xs R B G Q hr => F.run A outer s H args f us vs m tl xs R B G Q (hr.mono h)⟩
end
section
variable {P : Program} {w : World} {K : PySem.W.Frag} {mg : Str → Option Value} {base : Heap}
/-- okD where the code object is known -/
theorem okDc {x qual : Str} {st : Stmt} {f c : Addr} {fd : FuncData} {N ps : List Str} {k : Nat} {sp : DSp} {wb : DTS} (F : Fun K x qual st f fd) (hc : fd.code = .ref c) (S : FnScope N ps (defScope st)) (dl : ∀ cs R, sp cs R → cs.length = ps.length)
    (body : ∀ (A : Around) (outer : List Env) (s : Shared) (H : Hp) (E : XK), RoomG k (A.deeper (envOfC qual (defScope st) s.heap.objs.size f (.ref c))) → JSs (cxOf CX0 P w K mg base N qual (defScope st) f (.ref c) A outer s H E).nox (defBody st) wb)
    (rd : ∀ cs R, sp cs R → wb (endsOf cs R) (start0 N.length cs)) : FnG P w K mg base CX0 (k + 1) f fd ps (liftSp K sp) := by
  obtain ⟨oc, od, kV, doc, pm, an, cdv, ct, osl, rfl, lk, hcd⟩ := F.ex
  obtain rfl : cdv = .ref c := hc
  refine fnG_of lk hcd S (fun vs H Q E ⟨B, G, cs, R, rel, hs, _⟩ => by rw [← dl cs R hs, ← rel.len, List.length_map]) fun A outer s H vs Q E hr ⟨B, G, cs, R, rel, hs, k⟩ => ?_
  refine ⟨_, (body A outer s H E hr).nox, B, G, _, endsOf cs R, rel_start rel, rd cs R hs, ?_⟩
  exact ⟨fun σ' H' G' δ' ⟨io, r⟩ sG rel' => k _ H' G' _ _ r sG (rel_end rel rel' sG io) .non, fun v σ' H' G' x δ' ⟨io, r⟩ sG rel' dn => k v H' G' x _ r sG (rel_end rel rel' sG io) dn, fun _ _ _ _ h => h.elim, fun _ _ _ _ h => h.elim⟩
end
/-- what captured slots hold: data -/
def capC1 (c : Option Cell) (k : PyData → Prop) (_u : Stop k) : Prop := ∃ x, c = some (.d x) ∧ k x
def capC : List Nat → DS → (List PyData → Prop) → Prop
  | [], _, k => k []
  | j :: js, δ, k => capC1 δ[j]? (fun x => capC js δ fun ds => k (x :: ds)) .mk
omit [Tb] in
@[simp ↓] theorem capC1_d (x : PyData) (k : PyData → Prop) (u : Stop k) : capC1 (some (.d x)) k u = k x := propext ⟨fun ⟨y, e, h⟩ => by cases e; exact h, fun h => ⟨x, rfl, h⟩⟩
omit [Tb] in
@[simp ↓] theorem capC_nil (δ : DS) (k : List PyData → Prop) : capC [] δ k = k [] := rfl
omit [Tb] in
@[simp ↓] theorem capC_cons (j : Nat) (js : List Nat) (δ : DS) (k : List PyData → Prop) : capC (j :: js) δ k = capC1 δ[j]? (fun x => capC js δ fun ds => k (x :: ds)) .mk := rfl
def askL (sp : LSp) (tl : LTl) (xs : List PyData) (R : PyData → Prop) (_u : Stop R) : Prop := sp tl xs R
def wLam (js : List Nat) (n m : Nat) (bw : DE) (sp : LSp) (wa : DA) : DE := fun δ R => wa δ fun os δ1 => lkL os δ1 fun xs δ2 => capC js δ2 fun ds => askL sp (tlOf bw n m ds) xs (fun y => R (.d y) δ2) .mk
omit [Tb] in
@[simp ↓] theorem wLam_ap (js : List Nat) (n m : Nat) (bw : DE) (sp : LSp) (wa : DA) (δ : DS) (R : Opd → DS → Prop) : wLam js n m bw sp wa δ R = (wa δ fun os δ1 => lkL os δ1 fun xs δ2 => capC js δ2 fun ds => askL sp (tlOf bw n m ds) xs (fun y => R (.d y) δ2) .mk) := rfl
section
variable {K : PySem.W.Frag} {B G H : Hp} {δ : DS} {σ : L2.St}
end
section
variable {X : Cx} {k j : Nat} {g c P : Addr} {fd : FuncData} {ps lps fr N : List Str} {sp : LSp} {x : Str} {params : Arguments} {body e : Expr} {es : List Expr} {scope : Scope} {js : List Nat} {bw : DE} {wa : DA} {lpos p pos : Pos}
end
end DL
set_option Elab.async false
set_option linter.all false
set_option maxRecDepth 100000
set_option maxHeartbeats 4000000
namespace DL
open PySem PySem.Spec PyProof.Rows L2
/-- the tables are tracked, empty; and the script -/
noncomputable def tabH (K : PySem.W.Frag) (a : Addr) (vs : List Value) (ns : List Int) (cs : List (Addr × Addr)) : Hp := by
  classical
  exact fun b => if b ∈ cs.map Prod.snd then some (.tbl #[]) else scrH K a vs ns b
/-- how the makers' code objects stand when the law is called -/
structure Tabled (K : PySem.W.Frag) (h : Heap) (cs : List (Addr × Addr)) : Prop where
  code : ∀ p ∈ cs, PySem.W.CodeHd h p.1 p.2
  tab : ∀ p ∈ cs, h.get? p.2 = some (PySem.W.tabObj #[])
  off : ∀ p ∈ cs, K.lookup p.2 = none
/-- one parameter, the promise over every base that knows the tables -/
abbrev OneArgT (P : Program) (w : World) (K : PySem.W.Frag) (mg : Str → Option Value) (k : Nat) (fa : Addr) (x : Str) (sp : Sp) (cs : List (Addr × Addr)) (fd : FuncData) : Prop :=
  (∀ (s : Shared) (u : Value), BindsTo s fd ⟨[u], []⟩ [(x, u)]) ∧ ∀ base : Heap, K.In base → base.Ns mainGlobals mg → (∀ p ∈ cs, LamX.TabB base mg p.1 p.2) → FnG P w K mg base CX0 k fa fd [x] sp
theorem lawT {P : Program} {w : World} {K : PySem.W.Frag} {mg : Str → Option Value} {k : Nat} {fa a : Addr} {fd : FuncData} {x : Str} {sp : Sp} {s₁ : Shared} {vs : List Value} {ns : List Int} {cs : List (Addr × Addr)}
    (B : Began K mg s₁.heap) (hg : s₁.gens = #[]) (S : Script s₁.heap a vs ns) (Y : Tabled K s₁.heap cs) (hm : ∃ (bm : Addr) (ob : Obj), mg "__builtins__" = some (.ref bm) ∧ bm ≠ builtinsNs ∧ s₁.heap.get? bm = some ob ∧ ob.cls = .type "module" ∧ ob.dict = some builtinsNs ∧ ob.data = .plain)
    (hr : Room k callerA) (F : OneArgT P w K mg k fa x sp cs fd) (hsp : ∀ H : Hp, (∀ p ∈ cs, H p.2 = some (.tbl #[])) → SqL K H a (ns.map V.int) → sp [.ref a] H (fun v _ => v = .bl true) fun _ _ _ => False) :
    codeAny (model P w) callerA (.call (.ref fa) ⟨[.ref a], []⟩) (fun r z => r = .ok (.ret (.bool true)) ∧ OldK s₁.heap z.heap ∧ z.os = s₁.os ∧ AllBare z.gens) s₁ := by
  obtain ⟨KX, hns, ⟨mb, hb, hbb⟩, hlim⟩ := B
  obtain ⟨ha, hi, hl⟩ := S
  obtain ⟨hbind, F⟩ := F
  have rv := vals_ints hi
  have isT : ∀ {b : Addr}, b ∈ cs.map Prod.snd → s₁.heap.get? b = some (PySem.W.tabObj #[]) := fun h => by
    obtain ⟨p, hp, rfl⟩ := List.mem_map.mp h
    exact Y.tab p hp
  have aT : a ∉ cs.map Prod.snd := fun h => by
    have := isT h
    rw [ha] at this
    cases this
  obtain ⟨T, eT⟩ : ∃ T, tabH K a vs ns cs = T := ⟨_, rfl⟩
  have onT : ∀ {b : Addr}, b ∈ cs.map Prod.snd → T b = some (.tbl #[]) := fun h => by rw [← eT]; unfold tabH; exact if_pos h
  have offT : ∀ {b : Addr}, b ∉ cs.map Prod.snd → T b = scrH K a vs ns b := fun h => by rw [← eT]; unfold tabH; exact if_neg h
  have cases_ : ∀ {b : Addr} {u : HO}, T b = some u → (b ∈ cs.map Prod.snd ∧ u = .tbl #[]) ∨ (b = a ∧ K.lookup a = none ∧ u = .frz { cls := .type "list", data := .seq vs.toArray } (.lst (ns.map V.int))) := fun {b u} h => by
    by_cases m : b ∈ cs.map Prod.snd
    · rw [onT m] at h
      cases h
      exact .inl ⟨m, rfl⟩
    · rw [offT m] at h
      exact .inr (scrH_some h)
  have reads : SqL K T a (ns.map V.int) := by
    cases hk : K.lookup a with
    | none => exact .inl (.inr ⟨_, by rw [offT aT]; exact scrH_at hk⟩)
    | some o =>
      have e := KX a o hk
      rw [ha] at e
      cases e
      exact .inr ⟨_, vs.toArray, _, hk, rfl, rfl, rfl, by rw [List.size_toArray, hi.length]; exact hl, by simpa using rv⟩
  have hok : HOk P w T s₁.heap := fun b u q => by
    rcases cases_ q with ⟨m, rfl⟩ | ⟨rfl, _, rfl⟩
    · exact isT m
    · exact ⟨ha, (List.length_map (as := ns) V.int).symm ▸ hl, vs, _, rv, ha⟩
  have free : ∀ {b : Addr} {o : Obj}, s₁.heap.get? b = some o → (∀ vs n, o.data ≠ .seq vs n) → o.data ≠ .fields #[] → T b = none := fun {b o} e d d2 => by
    cases q : T b with
    | none => rfl
    | some u =>
      rcases cases_ q with ⟨m, _⟩ | ⟨rfl, _, _⟩
      · rw [isT m] at e
        cases e
        exact absurd rfl d2
      · rw [ha] at e
        cases e
        exact absurd rfl (d _ _)
  have names : ∀ {b : Addr} {m : Str → Option Value}, s₁.heap.Ns b m → (hidT s₁.heap T).Ns b m := fun {b m} ⟨o, es, ep, e, d, r⟩ =>
    ⟨o, es, ep, hidT_get e (free e (fun _ _ z => by rw [d] at z; cases z) fun z => by rw [d] at z; cases z), d, r⟩
  have kIn : K.In (hidT s₁.heap T) := fun b o e => hidT_get (KX b o e) (by
    cases q : T b with
    | none => rfl
    | some u =>
      rcases cases_ q with ⟨m, _⟩ | ⟨rfl, h2, _⟩
      · obtain ⟨p, hp, rfl⟩ := List.mem_map.mp m
        rw [Y.off p hp] at e
        cases e
      · rw [h2] at e
        cases e)
  have md : Mod K mg (hidT s₁.heap T) := ⟨kIn, names hns, ⟨mb, names hb, hbb⟩, let ⟨mc, h1, h2⟩ := hlim; ⟨mc, names h1, h2⟩⟩
  have tabs : ∀ p ∈ cs, LamX.TabB (hidT s₁.heap T) mg p.1 p.2 := fun p hp => by
    have tp := Y.tab p hp
    obtain ⟨o, us, file, tf, flags, tg, inF, text, tt, e, r1, r2, r3, rest⟩ := Y.code p hp
    obtain ⟨bm, ob, b1, b2, b3, b4, b5, b6⟩ := hm
    obtain ⟨on, es, ep, en, dn, _⟩ := id hns
    refine ⟨⟨o, us, file, tf, flags, tg, inF, text, tt, hidT_get e (free e (fun _ _ z => by rw [r2] at z; cases z) fun z => ?_), r1, r2, r3, rest⟩, ⟨bm, ob, b1, b2, fun q => ?_, fun q => ?_, hidT_get b3 (free b3 (fun _ _ z => by rw [b6] at z; cases z) fun z => by rw [b6] at z; cases z), b4, b5, b6⟩, fun q => ?_⟩
    · rw [r2] at z
      cases z
      simp at r3
    · rw [q, en] at b3
      cases b3
      rw [dn] at b6
      cases b6
    · rw [q, tp] at b3
      cases b3
      cases b6
    · rw [q, tp] at en
      cases en
      cases dn
  have env : Env0 P w K mg (hidT s₁.heap T) callerA [] s₁ T :=
    { frames := rfl, mod := md, bs := fun b o e => of_hidT e, bsz := Nat.le_of_eq (hidT_size _ _), funs := trivial, frf := fun b hb => (nomatch (show b ∈ ([] : List Addr) from hb)), hok := hok, bare := .of_eq hg }
  have run := (F _ kIn (names hns) tabs).run callerA [] s₁ T ⟨[.ref a], []⟩ [.ref a] [.ref a] _ _ (roomG_caller hr) env (hbind s₁ (.ref a)) (.cons rfl .nil) (hsp T (fun p hp => onT (List.mem_map.mpr ⟨p, hp, rfl⟩)) reads)
  have back : ∀ {H' : Hp} {z : Shared}, Un (frs []) [] T H' s₁.heap z.heap → HOk P w H' z.heap → OldK s₁.heap z.heap := fun {H' z} un ok => by
    have plain : ∀ {b : Addr} {o : Obj}, b ∉ cs.map Prod.snd → s₁.heap.get? b = some o → z.heap.get? b = some o := fun {b o} nb e => by
      cases q : T b with
      | none => exact un.keep b o e q (List.not_mem_nil) (by simp)
      | some t =>
        rcases cases_ q with ⟨m, _⟩ | ⟨rfl, _, rfl⟩
        · exact absurd m nb
        · exact (ok b _ (un.frzs b _ _ q)).1.trans (ha.symm.trans e)
    have grown : ∀ {b : Addr}, b ∈ cs.map Prod.snd → ∃ more : Array Value, z.heap.get? b = some (PySem.W.tabObj more) := fun {b} m => by
      obtain ⟨more, q⟩ := un.tbls b #[] (onT m)
      exact ⟨_, ok b _ q⟩
    refine ⟨fun b o e => ?_, fun b o e => ?_⟩
    · by_cases m : b ∈ cs.map Prod.snd
      · obtain ⟨more, q⟩ := grown m
        rw [isT m] at e
        cases e
        obtain ⟨p, hp, rfl⟩ := List.mem_map.mp m
        exact .inr (.inl ⟨((Y.code p hp).tab (Y.tab p hp)).isCodeTable, rfl, #[], more, rfl, by rw [Array.empty_append]; exact q⟩)
      · exact .inl (plain m e)
    · by_cases m : b ∈ cs.map Prod.snd
      · obtain ⟨more, q⟩ := grown m
        exact ⟨_, q⟩
      · exact ⟨o, plain m e⟩
  refine codeAny_mono run ?_
  rintro (e | _ | _ | _ | u) z h <;> try exact False.elim h
  obtain ⟨v, H', os, bare, un, ok, rv', rfl⟩ := h
  cases (show u = Value.bool true from rv')
  exact ⟨rfl, back un ok, os, bare⟩
theorem walkT {l : PySem.W.OpenLaw} {n k : Nat} {q : Program} {loose : List Str} {XP : (Str → Option Value) → Heap → Prop} {YP : World → Heap → Prop} {d : DefRec} {K : Params → PySem.W.Frag} {sp : PySem.W.Frag → Sp} {x : Str} {cs : List (Addr × Addr)} {xs : List Str}
    (most : l.most = some n) (fits : n ≤ sizeLine) (plain : d.params.defaults = []) (room : Room k callerA) (code : ∀ (w : World) (h : Heap), YP w h → (K w.params).In h)
    (tabs : ∀ w : World, List.map (PySem.W.tabIn (K w.params)) xs = cs.map some) (recs : ∀ y ∈ xs, ∃ r, (recsOf q).find? (fun e => e.name == y) = some r) (offs : ∀ (w : World), ∀ p ∈ cs, (K w.params).lookup p.2 = none)
    (law : ∀ (w : World) (mg : Str → Option Value) (fa : Addr) (h : Heap), (K w.params).In h → h.Ns mainGlobals mg → mg d.name = some (.ref fa) → ∃ fd : FuncData, OneArgT l.prog w (K w.params) mg k fa x (sp (K w.params)) cs fd)
    (true' : ∀ (K : PySem.W.Frag) (H : Hp) (a : Addr) (ns : List Int), ns.length ≤ n → (∀ p ∈ cs, H p.2 = some (.tbl #[])) → SqL K H a (ns.map V.int) → sp K [.ref a] H (fun v _ => v = .bl true) fun _ _ _ => False) : PySem.W.WalkO q loose XP YP l.row.toRowW d [] (fun f vs => PySem.call f vs) :=
  Att.attach_call most plain fun w _ s₁ mg mb fa _ _ _ _ a vs ns G Y _ _ _ at_law at_a are few calm => by
    have KX := code w _ Y
    obtain ⟨_, F⟩ := law w mg fa _ KX G.T.g at_law
    have one : ∀ p ∈ cs, PySem.W.CodeHd s₁.heap p.1 p.2 ∧ s₁.heap.get? p.2 = some (PySem.W.tabObj #[]) := fun p hp => by
      have m : some p ∈ List.map (PySem.W.tabIn (K w.params)) xs := by rw [tabs w]; exact List.mem_map.mpr ⟨p, hp, rfl⟩
      obtain ⟨y, hy, ey⟩ := List.mem_map.mp m
      obtain ⟨r, er⟩ := recs y hy
      exact PySem.W.tab_of G.T KX er ey
    exact lawT ⟨KX, G.T.g, ⟨mb, G.T.b, G.T.builtins⟩, G.T.nolimit⟩ calm ⟨at_a, are, Nat.le_trans few fits⟩ ⟨fun p hp => (one p hp).1, fun p hp => (one p hp).2, offs w⟩ G.T.bmain room F fun H hT reads => true' _ H a ns few hT reads
theorem tu_of {T : List (Addr × Str)} {P : Addr} {q : Str} (h : (T.all fun p => !(p.1 == P) || p.2 == q) = true) : ∀ p ∈ T, p.1 = P → p.2 = q := by
  intro p hp e
  have := List.all_eq_true.mp h p hp
  simp only [e, beq_self_eq_true, Bool.not_true, Bool.false_or, beq_iff_eq] at this
  exact this
theorem tm_of {T : List (Addr × Str)} {p : Addr × Str} (h : (T.any fun x => x.1 == p.1 && x.2 == p.2) = true) : p ∈ T := by
  obtain ⟨x, hx, e⟩ := List.any_eq_true.mp h
  simp only [Bool.and_eq_true, beq_iff_eq] at e
  have : x = p := Prod.ext e.1 e.2
  exact this ▸ hx
theorem tabs_of {T : List (Addr × Str)} {H : Hp} (h : ∀ p ∈ T, H p.1 = some (.tbl #[])) : LamX.Tabs T H := fun p hp => ⟨#[], h p hp, (by first | exact True.intro | simp [TriplesOk]), fun pos cv e => by cases e⟩
theorem some_of {α : Type} {o : Option α} (h : o.isSome = true) : ∃ r, o = some r := Option.isSome_iff_exists.mp h
end DL
set_option Elab.async false
set_option linter.all false
set_option maxRecDepth 100000
set_option maxHeartbeats 4000000
namespace DL
open PySem PySem.Spec PyProof.Rows L2 NdefX
theorem best_least (f : Nat → Int) : ∀ k, argBest (fun i j => decide (f i < f j)) k ≤ k ∧ ∀ j, j ≤ k → f (argBest (fun i j => decide (f i < f j)) k) ≤ f j ∧ (j < argBest (fun i j => decide (f i < f j)) k → f (argBest (fun i j => decide (f i < f j)) k) < f j)
  | 0 => ⟨Nat.le_refl _, fun j hj => by
    have : j = 0 := by omega
    subst this
    exact ⟨Int.le_refl _, fun h => absurd h (Nat.lt_irrefl _)⟩⟩
  | k + 1 => by
    obtain ⟨h1, h2⟩ := best_least f k
    show (if decide (f (k + 1) < f (argBest (fun i j => decide (f i < f j)) k)) = true then k + 1 else argBest (fun i j => decide (f i < f j)) k) ≤ k + 1 ∧ ∀ j, j ≤ k + 1 → f (if decide (f (k + 1) < f (argBest (fun i j => decide (f i < f j)) k)) = true then k + 1 else argBest (fun i j => decide (f i < f j)) k) ≤ f j ∧ (j < (if decide (f (k + 1) < f (argBest (fun i j => decide (f i < f j)) k)) = true then k + 1 else argBest (fun i j => decide (f i < f j)) k) → f (if decide (f (k + 1) < f (argBest (fun i j => decide (f i < f j)) k)) = true then k + 1 else argBest (fun i j => decide (f i < f j)) k) < f j)
    generalize argBest (fun i j => decide (f i < f j)) k = b at h1 h2 ⊢
    by_cases c : f (k + 1) < f b
    · rw [if_pos (decide_eq_true c)]
      refine ⟨Nat.le_refl _, fun j hj => ?_⟩
      by_cases e : j = k + 1
      · subst e
        exact ⟨Int.le_refl _, fun h => absurd h (Nat.lt_irrefl _)⟩
      · have := (h2 j (by omega)).1
        exact ⟨by omega, fun _ => by omega⟩
    · rw [if_neg (by simpa using c)]
      refine ⟨by omega, fun j hj => ?_⟩
      by_cases e : j = k + 1
      · subst e
        exact ⟨by omega, fun h => by omega⟩
      · exact h2 j (by omega)
theorem vals_at {xs : List V} {us : List Value} {i : Nat} {v : Value} (r : Vals xs us) (h : us[i]? = some v) : ∃ x, xs[i]? = some x ∧ RelV x v := by
  have hi : i < us.length := by
    by_cases c : i < us.length
    · exact c
    · rw [List.getElem?_eq_none (by omega)] at h; cases h
  have hx : i < xs.length := by rw [r.length]; exact hi
  obtain ⟨u, hu, q⟩ := r.get (List.getElem?_eq_getElem hx)
  rw [h] at hu
  cases hu
  exact ⟨_, List.getElem?_eq_getElem hx, q⟩
/-- a list whose items stand for these, walked -/
theorem walksV {prog : Program} {w : World} {A : Around} (hh : A.handled = none) {It l : Addr} (hl : l ≠ It) {ws : List V} :
    WalksS prog w A It [It, l] [It] (fun a b => b = a) ws.length (fun i v => ∃ x, ws[i]? = some x ∧ RelV x v) (fun i s => s.heap.IsListIter It l i ∧ ∃ us, s.heap.IsList l us ∧ Vals ws us.toList) := by
  have W := fun us => (Walks.list (prog := prog) (w := w) (A := A) hh It l hl us).toS
  have len : ∀ {us : Array Value}, Vals ws us.toList → us.size = ws.length := fun h => by rw [← Array.length_toList]; exact h.length.symm
  refine ⟨fun b hb => by rw [List.mem_singleton.mp hb]; exact List.mem_cons_self .., fun _ => rfl, fun a b c h1 h2 => h2.trans h1, ?_, ?_, ?_, ?_⟩
  · rintro i s h' tk ⟨a, us, b, c⟩ ht k
    have := (W us).frame i s h' tk ⟨a, b⟩ ht k
    exact ⟨this.1, us, this.2, c⟩
  · rintro i s Q E hi ⟨a, us, b, c⟩ k
    refine (W us).item i s Q E (by rw [len c]; exact hi) ⟨a, b⟩ fun v s' hv st m => k v s' ?_ ⟨st.1, us, st.2, c⟩ m
    obtain ⟨x, hx, r⟩ := vals_at c (i := i) (v := v) (by rw [Array.getElem?_toList]; exact hv)
    exact ⟨x, hx, r⟩
  · rintro s Q E ⟨a, us, b, c⟩ k
    refine (W us).done s Q E (by rw [len c]; exact ⟨a, b⟩) k
  · rintro i s Q E ⟨a, us, b, c⟩ k
    exact (W us).self i s Q E ⟨a, b⟩ k
variable [Tb]
/-- min by a key: the first whose number is the least -/
def minKC (tl : List PyData → (PyData → Prop) → Prop) (x : PyData) (k : PyData → Prop) (_u : Stop k) : Prop := ∃ (ds : List PyData) (f : Nat → Int), x = .list ds ∧ 0 < ds.length ∧ (∀ i d, ds[i]? = some d → tl [d] fun y => y = .int (f i)) ∧ ∀ i d, ds[i]? = some d → (∀ j, j < ds.length → f i ≤ f j ∧ (j < i → f i < f j)) → k d
def wMinK (n : Nat) (bw : DE) (wa : DA) : DE := fun δ R => wa δ fun os δ1 => lkL os δ1 fun xs δ2 => match xs with
  | [x] => minKC (tlOf bw n 1 []) x (fun y => R (.d y) δ2) .mk
  | _ => False
omit [Tb] in
@[simp ↓] theorem wMinK_ap (n : Nat) (bw : DE) (wa : DA) (δ : DS) (R : Opd → DS → Prop) : wMinK n bw wa δ R = (wa δ fun os δ1 => lkL os δ1 fun xs δ2 => match xs with
  | [x] => minKC (tlOf bw n 1 []) x (fun y => R (.d y) δ2) .mk
  | _ => False) := rfl
section
variable {X : Cx} {k j : Nat} {c P : Addr} {lps N : List Str} {x : Str} {params : Arguments} {body e : Expr} {scope : Scope} {bw : DE} {wa : DA} {lpos kpos p pos : Pos}
theorem je_minK (hr : RoomG k X.A) (hj : j + 3 ≤ k) (hc : X.calm = true) (hg : Gl X x) (hm : X.mg x = none) (hv : bootBuiltins x = some (.builtin "min"))
    (TB : LamX.TabB X.base X.mg c P) (hcode : X.env.code = .ref c) (hT : (P, X.env.qual ++ "<lambda>") ∈ Tb.T) (hu : ∀ p ∈ Tb.T, p.1 = P → p.2 = X.env.qual ++ "<lambda>") (hdef : defaultsOf params X.env = ([], []))
    (S : NScope N lps [] scope) (hl1 : lps.length = 1) (hfree : ∀ y ∈ scope.names, y.2 = .free → X.env.scope.names.lookup y.1 = some .cell ∨ X.env.scope.names.lookup y.1 = some .free)
    (hbind : ∀ (q : Str) (cl : List (Str × Addr)) (c' : Addr), LamB (lamF q params scope cl c') body lps)
    (hbody : ∀ (A : Around) (outer : List Env) (s : Shared) (H : Hp) (f c' : Addr), RoomG j (A.deeper (envF (lamF X.env.qual params scope (cloFrom X.env.cells scope.names []) c') f s.heap.objs.size)) → JE (ncx CX0 X.prog X.w X.K X.mg X.base N (lamF X.env.qual params scope (cloFrom X.env.cells scope.names []) c') f A outer s H E0) body bw)
    (ha : JA X [e] wa) (hn : x ≠ "__name__" := by decide) (hdb : (x == ("__debug__" : Str)) = false := by decide)
    (he : backTo pos (starEach [e] X.env) = (false, eval e X.env) :: backTo pos (starEach [] X.env) := by rfl) (hpl : (backTo pos (starEach [e] X.env)).any (·.1) = false := by rfl)
    (hall : (backToKw pos (keywordEach [⟨some "key", .Lambda params body scope lpos, kpos⟩] X.env)).all (·.1.isSome) = true := by rfl) (hnone : (backToKw pos (keywordEach [⟨some "key", .Lambda params body scope lpos, kpos⟩] X.env)).any (·.1.isNone) = false := by rfl)
    (hks : (backToKw pos (keywordEach [⟨some "key", .Lambda params body scope lpos, kpos⟩] X.env)).filterMap (·.1) = [Str.ofString "key"] := by rfl) :
    JE X (.Call (.Name x p) [e] [⟨some "key", .Lambda params body scope lpos, kpos⟩] pos) (wMinK N.length bw wa) := by
  refine ⟨fun pins s σ H Q I ⟨B, G, δ, R, rel, hw, kk⟩ => ?_⟩
  refine wpAny_Call_Name_kw (ld_blt I hg hm hv ?_ hn hdb)
  refine PyProof.Rows.callWith_kw (thn (ha.run pos pins s σ H (fun vs H2 => ∃ G2 δ2 v d ds, ∃ f : Nat → Int, vs = [v] ∧ Same G G2 ∧ Rel X.K B G2 δ2 σ H2 ∧ Dn X.K G2 v d ∧ d = .list ds ∧ 0 < ds.length ∧ (∀ i d, ds[i]? = some d → tlOf bw N.length 1 [] [d] fun y => y = .int (f i)) ∧ ∀ i d, ds[i]? = some d → (∀ j, j < ds.length → f i ≤ f j ∧ (j < i → f i < f j)) → R (.d d) δ2) I ⟨B, G, δ, _, rel, hw, fun vs H2 G2 os δ1 r1 s1 rel2 ok1 => by
    obtain ⟨G3, δ3, xs, q, s2, rel3, dnl⟩ := lkL_ok rel2 ok1 r1
    match xs, q with
    | [x], q =>
      obtain ⟨ds, f, rfl, q1, q2, q3⟩ := q
      cases dnl with
      | cons h t =>
        cases t
        exact ⟨G3, δ3, _, _, ds, f, rfl, s1.trans s2, rel3, h, rfl, q1, q2, q3⟩⟩) fun us s1 ⟨vs, H1, I1, r1, q1⟩ => ?_) he hpl hall hnone
  obtain ⟨G2, δ2, v, _, ds, f, rfl, sG, rel2, dn, rfl, n0, tl, fin⟩ := q1
  rw [hks]
  show wpAny _ _ (evalAll ((do let v ← eval (.Lambda params body scope lpos) X.env; standAt pos; pure v) :: [])) _ _ s1
  refine wpAny_evalAll_cons (wpAny_bind (LamX.lam_make2 I1 TB hcode hT hu rel2.tt.t hdef (fun y hy z => (hfree y hy z).elim (fun q => I1.ok.has _ (.inl q)) fun q => I1.ok.has _ (.inr q)) fun q c' pm ctv H2 s2 I2 eN T1 hf hfn hfr' hco => wpAny_bind (wpAny_standAt (wpAny_pure (wpAny_evalAll_nil ?_)))))
  obtain ⟨G3, sG3, gc, rel3⟩ := rel2.lam eN T1 hco
  have nofs : q ∉ X.fs := fun z => hfr' (by
    rcases I2.ok.stk with q | ⟨q, hf'⟩
    · rw [q]; exact z
    · rw [q]
      unfold frs
      rw [List.filterMap_cons, hf']
      exact List.mem_cons_of_mem _ z)
  have noL : q ≠ X.env.locals := fun z => by
    obtain ⟨m, ⟨o, es', ep, ho, hd, _⟩, _⟩ := I2.loc
    rw [← z, hf] at ho
    cases ho
    cases hd
  have Ip : Inv X ((q, lamO (lamF X.env.qual params scope (cloFrom X.env.cells scope.names []) c') body pm ctv) :: pins) σ H2 s2 := I2.pins_of fun r hr => by
    rcases List.mem_cons.mp hr with rfl | hr
    · exact ⟨hf, hfn, noL, nofs, fun v z => by cases z⟩
    · exact I2.pin r (List.mem_append_right _ hr)
  cases dn with
  | lst hl dl =>
  rename_i l ws
  obtain ⟨u1, rfl, e1⟩ := vals1 r1
  cases e1
  have lnW : ws.length = ds.length := dl.len
  obtain ⟨its, rvs, pl, _⟩ := I2.list (SqL.of (rel3.sg _ _ (sG3 _ _ hl)))
  have hh : X.A.in1.handled = none := I.ok.hd hc
  show wpAny _ _ (call (.builtin "min") [.ref l] [(Str.ofString "key", .ref q)]) _ _ s2
  refine call_min_walkK (PySem.W.iter_listW (A := X.A.in1) hh pl.isList fun s3 e3 W0 st0 hfp _ keep => ?_)
  have lne : l ≠ s2.heap.objs.size := by
    obtain ⟨o, ho, _⟩ := pl.isList
    exact Nat.ne_of_lt (Heap.lt_size ho)
  have sz3 : s3.heap.objs.size = s2.heap.objs.size + 1 := by rw [e3]; exact Heap.size_push ..
  have fp : ∀ {H' : Hp} (b : Addr), s2.heap.objs.size ≤ b → H' b = none → FpOk X ((q, lamO (lamF X.env.qual params scope (cloFrom X.env.cells scope.names []) c') body pm ctv) :: pins) H' b := fun b hb hn => Ip.fpOk hb hn
  have nfr : ∀ b, s2.heap.objs.size ≤ b → b ∉ frs X.stack := fun b hb z => by
    obtain ⟨_, h1, h2, _⟩ := fp (H' := H2) b hb (I2.hok.fresh hb)
    rcases List.mem_cons.mp (I2.stkSub _ z) with e | e
    · exact h1 e
    · exact h2 e
  refine ⟨s2.heap.objs.size, _, _, _, ws.length, _, _, fun s => ∃ H' G', Inv X ((q, lamO (lamF X.env.qual params scope (cloFrom X.env.cells scope.names []) c') body pm ctv) :: pins) σ H' s ∧ Same G3 G' ∧ Rel X.K B G' δ2 σ H' ∧ H' s3.heap.objs.size = none ∧ H' s2.heap.objs.size = none,
    fun i k s => ∃ t, k = .int (f i) t, fun i j => decide (f i < f j), rfl, walksV (A := X.A.in1) (ws := ws) hh lne, ⟨st0.1, _, st0.2, rvs⟩, hfp, by omega, ⟨?_, ?_, ?_, ?_⟩, ?_, ?_⟩
  · rintro s s' ⟨H', G', I', sg', rel', nS, nI⟩ m
    refine ⟨H', G', ?_, sg', rel', nS, nI⟩
    obtain ⟨hp, g, d, tk, os⟩ := s'
    have h1 : g = s.gens := m.gens
    have h2 : d = s.drawn := m.drawn
    have h3 : os = s.os := m.os
    subst h1 h2 h3
    refine I'.turnedL (ch := [s3.heap.objs.size, s2.heap.objs.size]) m.heap fun b hb => ?_
    simp only [List.mem_cons, List.not_mem_nil, or_false] at hb
    rcases hb with rfl | rfl
    · exact fp _ (by omega) nS
    · exact fp _ (Nat.le_refl _) nI
  · exact fun _ _ _ _ h _ => h
  · rintro i v s o Q1 E1 hi ⟨x1, hx, rx⟩ ⟨H', G', I', sg', rel', nS, nI⟩ ⟨hit, _⟩ hS cont
    obtain ⟨oI, hoI, hcI, hdI⟩ := hit
    obtain ⟨p1, p2, _⟩ := I'.pin _ (List.mem_append_right _ (List.mem_cons_self ..))
    obtain ⟨d1, hd1, dn1⟩ := dl.getV hx
    obtain ⟨_, tl1⟩ := tl i d1 hd1
    have cp : Caps X (cloFrom X.env.cells scope.names []) [] [] := Caps.made I'.ok hfree (fun y hy => absurd hy List.not_mem_nil) rfl
    have CA := cells_of I' cp
    have od : OpdsOk X.K G' σ [x1] ([d1].map Opd.d) := opds_dn (.cons (dn1.mono (sG3.trans sg')) .nil)
    have nd : (slotsOf ([d1].map Opd.d)).Nodup := by rw [slots_d]; exact List.nodup_nil
    have rc := call_rel rel' od nd
    rw [cells_d, slots_d] at rc
    have rm : RoomG (j + 1) X.A.in1 := ⟨((hr.mono (show j + 2 ≤ k by omega)).rm).in1, hr.gd⟩
    have co := code_lam (A := X.A.in1) (vs := [x1]) (us := [v]) (ws := []) (Q := fun v H'' => v = .int (f i) ∧ ∃ G'', Same G' G'' ∧ Rel X.K B G'' δ2 σ H'') S rm I'.env0.in1 p1 (rel'.sg _ _ (sg' _ _ gc)) CA (.cons rx .nil) (by simp [hl1]) (hbind _ _ _) (hbody X.A.in1 X.stack s H' q c' (rm.deeper _)) (by
      refine ⟨_, G', _, _, rel_start rc, tl1, fun v H'' G'' o δ' r s3 relE ok3 => ?_⟩
      obtain ⟨G4, δ4, y, ky, s4, rel4, dn4⟩ := lk_ok relE ok3 r
      subst ky
      cases dn4
      exact ⟨rfl, G4, s3.trans s4, call_back (os := []) (cs := []) rel' .nil List.nodup_nil (s3.trans s4) (show Rel X.K (hold B H' δ2 (slotsOf [])) G4 [] (([] : List V).map some) H'' from rel4.bare)⟩)
    show wpAny _ _ (call (.ref q) [v]) _ _ s
    refine wpAny_call (codeAny_mono co ?_)
    rintro (err | _ | _ | _ | u) z back <;> first | exact False.elim back | skip
    obtain ⟨v', H'', os, bare, un, hok, rv, rfl, G'', sg'', rel''⟩ := back
    obtain ⟨_, _, I'', _, _, eH⟩ := I'.after (Q := fun v H => v = .int (f i) ∧ H = H'') ⟨_, H'', os, bare, un, hok, rv, rfl, rfl⟩
    rw [eH] at I''
    obtain ⟨its', r', pl', _⟩ := I''.list (SqL.of (rel''.sg _ _ (sg'' _ _ (sg' _ _ (sG3 _ _ hl)))))
    obtain ⟨tk, rfl⟩ := rv
    refine cont _ z ⟨H'', G'', I'', sg'.trans sg'', rel'', un.free _ o hS nS List.not_mem_nil, un.free _ oI hoI nI List.not_mem_nil⟩ ⟨⟨oI, un.keep _ oI hoI nI (nfr _ (Nat.le_refl _)) List.not_mem_nil, hcI, hdI⟩, _, pl'.isList, r'⟩ (un.keep _ o hS nS (nfr _ (by omega)) List.not_mem_nil) ⟨tk, rfl⟩ fun _ _ h => h
  · intro i j ki kj s Q1 E1 _ h1 h2 hq
    exact CmpOf.ints_lt (A := X.A.in1) (P := fun i v => ∃ t, v = .int (f i) t) f (fun i v h => h) i j _ _ _ _ _ h1 h2 hq
  · refine ⟨H2, G3, ?_, Same.refl _, rel3, I2.hok.fresh (by omega), I2.hok.fresh (Nat.le_refl _)⟩
    rw [e3]
    exact Ip.kept (t' := s2.toks) fun b o h => Heap.get?_push_of_some _ h
  · rintro v s ⟨x1, hx, rx⟩ ⟨H', G', I', sg', rel', _, _⟩
    obtain ⟨d1, hd1, dn1⟩ := dl.getV hx
    obtain ⟨b1, b2⟩ := best_least f (ws.length - 1)
    refine ⟨x1, H', I'.pins_of fun r hr => I'.pin r (List.mem_append_right _ (List.mem_cons_of_mem _ hr)), rx, kk x1 H' G' (.d d1) δ2 (fin _ d1 hd1 fun j hj => b2 j (by omega)) (sG.trans (sG3.trans sg')) rel' (dn1.mono (sG3.trans sg'))⟩
end
end DL
set_option Elab.async false
set_option linter.all false
set_option maxRecDepth 100000
set_option maxHeartbeats 4000000
namespace DL
open PySem PySem.Spec PyProof.Rows L2 PySem.W PySem.Calls
variable [Tb]
/-- what the written part tells of the class C, its __init__ at fI -/
structure ExcInitC (P : Program) (K : PySem.W.Frag) (C fI : Addr) (ps : List Str) : Prop where
  T : OexC K C
  cd : ∃ cdD, clsIn K C = some cdD
  sub : mroIn K C (.ref C) = some true
  opq : nsIn K cStatics "thirdparty.any" = some none
  ini : ks_superIn K C C "__init__" = some (some (.builtin "ValueError.__init__"))
  ve : subIn K (.ref C) (.type "ValueError") = some true
section
variable {prog : Program} {w : World} {A : Around} {E : Value → Shared → Prop} {s : Shared} {K : PySem.W.Frag}
end
end DL
set_option Elab.async false
set_option linter.all false
set_option maxRecDepth 100000
set_option maxHeartbeats 4000000
namespace DL
open PySem PySem.Spec PyProof.Rows L2 PySem.W PySem.Calls NdefX
variable [Tb]
section
variable {P : Program} {w : World} {K : PySem.W.Frag} {mg : Str → Option Value} {base : Heap}
/-- what the written part tells of the __init__ of the class C -/
structure IniC (P : Program) (K : PySem.W.Frag) (mg : Str → Option Value) (C fI cda cc : Addr) (qual : Str) (params : Arguments) (scope : Scope) (N ps : List Str) (ex : Expr) (es : List Expr) (p0 p1 p2 p4 p5 : Pos) : Prop where
  T : ExcInitC P K C fI []
  hcd : codeIn K (.ref cda) qual = true
  hcode : ∃ ccl cdd cvs ccs file tf, K.lookup cda = some ⟨ccl, cdd, .fields cvs, ccs⟩ ∧ cvs[2]? = some (.str file tf) ∧ ((P.main.file : Str) == file) = true
  hcell : ∃ cl cld csl, K.lookup cc = some ⟨cl, cld, .cell (some (.ref C)), csl⟩
  hsm : mg "super" = none
  S : NScope N ps ["__class__"] scope
  hp : ∃ ar, (params.posonlyargs ++ params.args).head? = some ar ∧ ps.head? = some ar.arg
  hnd : ps.Nodup
  hks : scope.names.lookup ("super" : Str) = some .globalImplicit
  htop : (P.main.scope.names.lookup ("super" : Str)).isSome = false
  hst : ∀ L, starEach (ex :: es) (ksEnv qual scope L fI (.ref cda) cc) = (false, eval ex (ksEnv qual scope L fI (.ref cda) cc)) :: starEach es (ksEnv qual scope L fI (.ref cda) cc)
  hpl : ∀ L, (backTo p4 (starEach es (ksEnv qual scope L fI (.ref cda) cc))).any (·.1) = false
  hev : ∀ L, ∃ pl, eval (.Call (.Attribute (.Call (.Name "super" p0) [] [] p1) "__init__" p2) (ex :: es) [] p4) (ksEnv qual scope L fI (.ref cda) cc) = (do
      let ov ← attributeBase (.Call (.Name "super" p0) [] [] p1) "__init__" (ksEnv qual scope L fI (.ref cda) cc) (eval (.Call (.Name "super" p0) [] [] p1) (ksEnv qual scope L fI (.ref cda) cc))
      standAt p2.atName
      let (f, first) ← holding [ov] (getMethod ov "__init__" pl)
      callWith p4 f first (backTo p4 (starEach (ex :: es) (ksEnv qual scope L fI (.ref cda) cc))) [])
  hsw : ∀ L, swapsWith (.Call (.Attribute (.Call (.Name "super" p0) [] [] p1) "__init__" p2) (ex :: es) [] p4) none p5.line (ksEnv qual scope L fI (.ref cda) cc) = pure false
  hin : ∀ L, interactive (ksEnv qual scope L fI (.ref cda) cc) = false
end
end DL
set_option Elab.async false
set_option linter.all false
set_option maxRecDepth 100000
set_option maxHeartbeats 4000000
namespace DL
open PySem PySem.Spec PyProof.Rows L2
variable [Tb]
abbrev XNames := List (Str × Addr)
/-- a class of the list -/
def ExcR (K : PySem.W.Frag) (TL : XNames) (G : Hp) (cls : Value) (d : Option Addr) (x : PyData) : Prop := ExcAt K G cls d x ∧ ∃ n C, (n, C) ∈ TL ∧ cls = .ref C
def wxOf (K : PySem.W.Frag) (TL : XNames) (B G : Hp) (rt : PyData → DS → Prop) : WX := fun cls d σ H => ∃ G' δ' x, rt x δ' ∧ Same G G' ∧ Rel K B G' δ' σ H ∧ ExcR K TL G' cls d x
theorem wx_mono {K : PySem.W.Frag} {TL : XNames} {B G G' : Hp} {rt : PyData → DS → Prop} (s : Same G G') : ∀ c d σ H, wxOf K TL B G' rt c d σ H → wxOf K TL B G rt c d σ H := fun c d σ H ⟨G2, δ', x, h1, h2, h3, h4⟩ => ⟨G2, δ', x, h1, s.trans h2, h3, h4⟩
structure EndsX (X : Cx) (TL : XNames) (B G : Hp) (E : DEnds) (D : Ends) : Prop extends EndsOk X.K B G E D where
  tk : L2N.Takes X (wxOf X.K TL B G E.rt)
theorem EndsX.mono {X : Cx} {TL : XNames} {B G G' : Hp} {E : DEnds} {D : Ends} (h : EndsX X TL B G E D) (s : Same G G') : EndsX X TL B G' E D := ⟨h.toEndsOk.mono s, h.tk.imp (wx_mono s)⟩
/-- expressions that may raise: Z is what is wished of an exception -/
abbrev DEX := DS → (Opd → DS → Prop) → (PyData → DS → Prop) → Prop
abbrev DAX := DS → (List Opd → DS → Prop) → (PyData → DS → Prop) → Prop
section
variable {X : Cx} {TL : XNames} {st : Stmt} {rest es : List Stmt} {e : Expr} {pos : Pos}
def axNil : DAX := fun δ R _ => R [] δ
def axCons (w : DEX) (r : DAX) : DAX := fun δ R Z => w δ (fun o δ1 => r δ1 (fun os δ2 => R (o :: os) δ2) Z) Z
def wTupX (w : DAX) : DEX := fun δ R Z => w δ (fun os δ1 => lkL os δ1 fun xs δ2 => xs.length ≤ 1000 ∧ R (.d (.tuple xs)) δ2) Z
def wLstX (w : DAX) : DEX := fun δ R Z => w δ (fun os δ1 => lkL os δ1 fun xs δ2 => xs.length ≤ 1000 ∧ R (.d (.list xs)) δ2) Z
def wRetX (w : DEX) : DTS := fun E δ => w δ (fun o δ1 => lk o δ1 fun x δ2 => E.rt x δ2) E.rt
def wDropX (w : DEX) : DTS := fun E δ => w δ (fun _ δ1 => E.nx δ1) E.rt
def wSetX (i : Nat) (w : DEX) : DTS := fun E δ => w δ (fun o δ1 => lk o δ1 fun x δ2 => E.nx (δ2.set i (.d x))) E.rt
def wAsgGX (w : DEX) (g : DTG) : DTS := fun E δ => w δ (fun o δ1 => lk o δ1 fun x δ2 => g x δ2 E.nx) E.rt
def wIfEX (t : DT) (wa wb : DEX) : DEX := fun δ R Z => t δ fun k δ1 => if k = true then wa δ1 R Z else wb δ1 R Z
abbrev DMk := DS → (PyData → DS → Prop) → Prop
def wRaise (w : DMk) : DTS := fun E δ => w δ E.rt
/-- C(e): one field -/
def wMk1 (n f : Str) (w : DA) : DMk := fun δ Z => w δ fun os δ1 => lkL os δ1 fun xs δ2 => ∃ x, xs = [x] ∧ Z (excD n [(f, x)]) δ2
/-- C(e, e2): two fields -/
def wMk2 (n f g : Str) (w : DA) : DMk := fun δ Z => w δ fun os δ1 => lkL os δ1 fun xs δ2 => ∃ x y, xs = [x, y] ∧ Z (excD n [(g, y), (f, x)]) δ2
end
end DL
set_option Elab.async false
set_option linter.all false
set_option maxRecDepth 100000
set_option maxHeartbeats 4000000
namespace DL
open PySem PySem.Spec PyProof.Rows L2
variable [Tb]
def notX (x : PyData) : Prop := ∀ n fs, x ≠ excD n fs
def onX (x : PyData) (k : PyData → Prop) (kx : Str → List (Str × PyData) → Prop) (_u : Stop (k, kx)) : Prop := (∀ n fs, x = excD n fs → kx n fs) ∧ (notX x → k x)
theorem excD_inj {n m : Str} {fs gs : List (Str × PyData)} (h : excD n fs = excD m gs) : n = m ∧ fs = gs := by
  unfold excD at h
  simp only [PyData.dict.injEq, List.cons.injEq, Prod.mk.injEq, PyData.str.injEq, and_true] at h
  obtain ⟨h1, h2⟩ := h
  refine ⟨h1, ?_⟩
  refine (List.map_inj_right ?_).mp h2
  rintro ⟨a, b⟩ ⟨c, d⟩ e
  simp only [Prod.mk.injEq, PyData.str.injEq] at e
  exact Prod.ext e.1 e.2
theorem onX_yes {n : Str} {fs : List (Str × PyData)} {k : PyData → Prop} {kx : Str → List (Str × PyData) → Prop} {u : Stop (k, kx)} (h : onX (excD n fs) k kx u) : kx n fs := h.1 n fs rfl
omit [Tb] in
@[simp ↓] theorem onX_exc (n : Str) (fs : List (Str × PyData)) (k : PyData → Prop) (kx : Str → List (Str × PyData) → Prop) (u : Stop (k, kx)) : onX (excD n fs) k kx u = kx n fs := propext ⟨onX_yes, fun h => ⟨fun m gs e => by
  obtain ⟨rfl, rfl⟩ := excD_inj e
  exact h, fun hn => absurd rfl (hn n fs)⟩⟩
theorem onX_of {x : PyData} {k : PyData → Prop} {kx : Str → List (Str × PyData) → Prop} {u : Stop (k, kx)} (hn : notX x) : onX x k kx u = k x := propext ⟨fun h => h.2 hn, fun h => ⟨fun n fs e => absurd e (hn n fs), fun _ => h⟩⟩
theorem notX_tup (xs : List PyData) : notX (.tuple xs) := fun n fs e => by cases e
theorem notX_list (xs : List PyData) : notX (.list xs) := fun n fs e => by cases e
theorem notX_int (i : Int) : notX (.int i) := fun n fs e => by cases e
theorem notX_bool (i : Bool) : notX (.bool i) := fun n fs e => by cases e
theorem notX_str (i : Str) : notX (.str i) := fun n fs e => by cases e
theorem notX_none : notX .none := fun n fs e => by cases e
omit [Tb] in
@[simp ↓] theorem onX_tup (xs : List PyData) (k : PyData → Prop) (kx : Str → List (Str × PyData) → Prop) (u : Stop (k, kx)) : onX (.tuple xs) k kx u = k (.tuple xs) := onX_of (notX_tup xs)
omit [Tb] in
@[simp ↓] theorem onX_list (xs : List PyData) (k : PyData → Prop) (kx : Str → List (Str × PyData) → Prop) (u : Stop (k, kx)) : onX (.list xs) k kx u = k (.list xs) := onX_of (notX_list xs)
omit [Tb] in
@[simp ↓] theorem onX_int (i : Int) (k : PyData → Prop) (kx : Str → List (Str × PyData) → Prop) (u : Stop (k, kx)) : onX (.int i) k kx u = k (.int i) := onX_of (notX_int i)
omit [Tb] in
@[simp ↓] theorem onX_bool (i : Bool) (k : PyData → Prop) (kx : Str → List (Str × PyData) → Prop) (u : Stop (k, kx)) : onX (.bool i) k kx u = k (.bool i) := onX_of (notX_bool i)
omit [Tb] in
@[simp ↓] theorem onX_str (i : Str) (k : PyData → Prop) (kx : Str → List (Str × PyData) → Prop) (u : Stop (k, kx)) : onX (.str i) k kx u = k (.str i) := onX_of (notX_str i)
omit [Tb] in
@[simp ↓] theorem onX_none (k : PyData → Prop) (kx : Str → List (Str × PyData) → Prop) (u : Stop (k, kx)) : onX .none k kx u = k .none := onX_of notX_none
omit [Tb] in
@[simp] theorem notX_tup' (xs : List PyData) : notX (.tuple xs) = True := eq_true (notX_tup xs)
omit [Tb] in
@[simp] theorem notX_list' (xs : List PyData) : notX (.list xs) = True := eq_true (notX_list xs)
omit [Tb] in
@[simp] theorem notX_int' (xs : Int) : notX (.int xs) = True := eq_true (notX_int xs)
omit [Tb] in
@[simp] theorem notX_bool' (xs : Bool) : notX (.bool xs) = True := eq_true (notX_bool xs)
omit [Tb] in
@[simp] theorem notX_str' (xs : Str) : notX (.str xs) = True := eq_true (notX_str xs)
omit [Tb] in
@[simp] theorem notX_none' : notX .none = True := eq_true notX_none
section
variable {P : Program} {w : World} {K : PySem.W.Frag} {mg : Str → Option Value} {base : Heap}
end
section
variable {X : Cx} {TL : XNames} {CX : CXT} {k : Nat} {f : Addr} {fd : FuncData} {ps : List Str} {x : Str} {p pos : Pos} {e : Expr} {es : List Expr}
def wCallX (m : List Bool) (sp : DSp) (w : DAX) : DEX := fun δ R Z => w δ (fun os δ1 => lkM m os δ1 fun os' δ2 => (slotsOf os').Nodup ∧ sp (os'.map (cellOf δ2)) fun x cs => onX x (fun x => R (.d x) (putBack os' cs δ2)) (fun n fs => Z (excD n fs) (putBack os' cs δ2)) .mk) Z
def xE (w : DE) : DEX := fun δ R _ => w δ R
def xA (w : DA) : DAX := fun δ R _ => w δ R
def nX (w : DEX) : DE := fun δ R => w δ R fun _ _ => False
/-- a statement out of which nothing comes -/
def noXE (E : DEnds) : DEnds := { E with rt := fun x δ' => notX x ∧ E.rt x δ' }
def wNoX (w : DTS) : DTS := fun E δ => w (noXE E) δ
end
def hndE (i : Nat) (E : DEnds) : DEnds := { nx := fun δ2 => E.nx (δ2.set i .em), rt := fun y δ2 => E.rt y (δ2.set i .em), bk := fun δ2 => E.bk (δ2.set i .em), ct := fun δ2 => E.ct (δ2.set i .em) }
def tryE (i : Nat) (cat : Str → Bool) (wh : Addr → Value → Option Addr → DTS) (E : DEnds) : DEnds := { nx := E.nx, bk := E.bk, ct := E.ct, rt := fun x δ' => onX x (fun x => E.rt x δ') (fun n fs => if cat n = true then ∀ (a : Addr) (cls : Value) (d : Option Addr), wh a cls d (hndE i E) (δ'.set i (.xc a cls d (excD n fs))) else E.rt (excD n fs) δ') .mk }
def wTry (i : Nat) (cat : Str → Bool) (wb : DTS) (wh : Addr → Value → Option Addr → DTS) : DTS := fun E δ => wb (tryE i cat wh E) δ
section
variable {X : Cx} {TL : XNames}
end
end DL
set_option Elab.async false
set_option linter.all false
set_option maxRecDepth 100000
set_option maxHeartbeats 4000000
namespace DL
open PySem PySem.Spec PyProof.Rows L2
variable [Tb]
section
open PySem.W PySem.Calls
variable {prog : Program} {w : World} {A : Around} {E : Value → Shared → Prop} {s : Shared} {K : Frag} {x D : Addr} {ox : Obj}
/-- `x.__class__` of an instance, by the descriptor that the root class gives, is the instance's class -/
structure ClsBy (K : Frag) (D : Addr) : Prop where
  get : findIn K (.ref D) "__getattribute__" = some (some (.builtin "BaseException.__getattribute__"))
  no : findIn K (.ref D) "__getattr__" = some none
  exc : subIn K (.ref D) (.type "BaseException") = some true
  dict : hasDictIn K D = true
  attr : findIn K (.ref D) "__class__" = some (some (.builtin "object.__class__"))
  desc : specialIn K (.builtin "object.__class__") "__get__" = some (some (.builtin "getset_descriptor.__get__"))
  takes : takesIn K (.builtin "object.__class__") = some true
  root : mroIn K D (.type "object") = some true
variable {od : Option Obj}
theorem ClsBy.cls (c : ClsBy K D) : ∃ cd, clsIn K D = some cd := (any_some c.dict).imp fun _ z => z.1
theorem ClsBy.found (c : ClsBy K D) : findObj K D od "__class__" = some (.bind (.builtin "getset_descriptor.__get__") (.builtin "object.__class__")) := by
  obtain ⟨cd, e⟩ := c.cls
  simp [findObj, e, c.attr, c.desc, c.takes]
/-- the class is an object of the program, and no tuple -/
theorem ClsBy.obj (c : ClsBy K D) : ∃ o cd, K.lookup D = some o ∧ o.data = .cls cd := by
  obtain ⟨cd, e⟩ := c.cls
  rw [clsIn] at e
  split at e
  next _ _ cd' _ at_D => exact ⟨_, cd', at_D, rfl⟩
  next => exact nomatch e
section
variable {t : Nat} {Q : Fin → Shared → Prop}
theorem ClsBy.root_get (c : ClsBy K D) {tk : Tok} {s : Shared} (X : K.In s.heap) (I : InstAt s.heap x ox D od) (h : Q (.done (.ret (.ref D))) s) : wpAny (model prog w) A (Builtin.«object.__getattribute__» ⟨[.ref x, .str "__class__" tk], []⟩) Q E s := by
  obtain ⟨hp, gs, dr, tk0, os⟩ := s
  have type := I.type (M := model prog w)
  have find := looks_find (M := model prog w) X I c.found
  have desc : wpAny (model prog w) A (holding [Value.builtin "object.__class__"] (call (.builtin "getset_descriptor.__get__") [.builtin "object.__class__", .ref x, .ref D]) >>= ret) Q E ⟨hp, gs, dr, tk0, os⟩ := by
    refine wpAny_bind (wpAny_holding (wpAny_call (class_get (s := ⟨hp, gs, dr, tk0, os⟩) (ox := ox) (od := od) X I c.root ?_)))
    exact wpAny_pure h
  delta Builtin.«object.__getattribute__»
  exact wpAny_bind (wpAny_of_eq (a := ((Value.ref x : Value), [Value.str "__class__" tk])) (by simp only [slotArgs]; rfl) (wpAny_bind (wpAny_pure (wpAny_bind (type.at (wpAny_bind (find.at desc)))))))
end
section
variable {Q : Option Value → Shared → Prop}
theorem ClsBy.tells (c : ClsBy K D) (X : K.In s.heap) (I : InstAt s.heap x ox D od) (h : Q (some (.ref D)) { s with toks := s.toks + 1 }) : wpAny (model prog w) A (getAttr? (.ref x) "__class__") Q E s := by
  obtain ⟨hp, gs, dr, tk, os⟩ := s
  have type := I.type (M := model prog w)
  have isExc : Looks (model prog w) hp (isInstance (.ref x) (.type "BaseException")) true := type.andThen (looks_subIn X c.exc)
  have other : (Value.builtin "BaseException.__getattribute__" == Value.builtin "object.__getattribute__") = false := by decide +kernel
  have by_base {G E' : Value → Shared → Prop} {A' : Around} (g : G (.ref D) ⟨hp, gs, dr, tk + 1, os⟩) : wpAny (model prog w) A' (call (.builtin "BaseException.__getattribute__") [.ref x, .str "__class__" tk]) G E' ⟨hp, gs, dr, tk + 1, os⟩ :=
    wpAny_call (codeAny_call_builtin PySem.F.excAttr_ValueError.ga.plain PySem.F.entry_bexc_ga (@check_slot (model prog w) _ _ ⟨hp, gs, dr, tk + 1, os⟩ "BaseException.__getattribute__" "BaseException" "__getattribute__" (.ref x) [.str "__class__" tk] [] _ (by decide +kernel) (by decide +kernel) isExc
      (PySem.F.args_bexc_ga (.ref x) (.str "__class__" tk)) (c.root_get X I g)))
  have look1 := looks_findIn (M := model prog w) X c.get
  have look2 := looks_findIn (M := model prog w) X c.no
  delta getAttr? getAttrBy? getAttrBy
  refine wpAny_bind (wpAny_mkText (wpAny_bind (wpAny_attempt (wpAny_holding (wpAny_bind (type.at (wpAny_bind (look1.at (wpAny_ite_false (by rw [other, Bool.and_false]; rfl) ?_)))))))))
  delta getAttrByItsOwn hookBefore
  refine wpAny_bind (wpAny_ite_true (by rfl) (look2.at (wpAny_bind (wpAny_attempt (wpAny_holding ?_)))))
  delta callGetattribute
  refine wpAny_ite_false (by rfl) ?_
  delta boundAndCalled
  rw [PySem.F.excAttr_ValueError.ga.bind (.ref x)]
  refine wpAny_bind (wpAny_pure (show wpAny _ _ (call (.builtin "BaseException.__getattribute__") [.ref x, .str "__class__" tk]) _ _ _ from by_base ?_))
  show wpAny _ _ (handedOut (.ref D)) _ _ _
  rw [handedOut_of (v := .ref D) rfl]
  exact wpAny_pure (wpAny_pure h)
end
end
def xfC (c : Option Cell) (a : Addr) (cls : Value) (d : Option Addr) (f : Str) (k : PyData → Prop) (_u : Stop k) : Prop := ∃ n fs y, c = some (.xc a cls d (excD n fs)) ∧ fs.lookup f = some y ∧ k y
def wXf (a : Addr) (cls : Value) (d : Option Addr) (i : Nat) (f : Str) : DE := fun δ R => xfC δ[i]? a cls d f (fun y => R (.d y) δ) .mk
def isxC (c : Option Cell) (a : Addr) (cls : Value) (d : Option Addr) (k : Str → Prop) (_u : Stop k) : Prop := ∃ n fs, c = some (.xc a cls d (excD n fs)) ∧ k n
def wIsx (a : Addr) (cls : Value) (d : Option Addr) (i : Nat) (isin : Str → Bool) : DE := fun δ R => isxC δ[i]? a cls d (fun n => R (.d (.bool (isin n))) δ) .mk
omit [Tb] in
@[simp ↓] theorem wXf_ap (a : Addr) (cls : Value) (d : Option Addr) (i : Nat) (f : Str) (δ : DS) (R : Opd → DS → Prop) : wXf a cls d i f δ R = xfC δ[i]? a cls d f (fun y => R (.d y) δ) .mk := rfl
omit [Tb] in
@[simp ↓] theorem wIsx_ap (a : Addr) (cls : Value) (d : Option Addr) (i : Nat) (isin : Str → Bool) (δ : DS) (R : Opd → DS → Prop) : wIsx a cls d i isin δ R = isxC δ[i]? a cls d (fun n => R (.d (.bool (isin n))) δ) .mk := rfl
omit [Tb] in
@[simp ↓] theorem isxC_x (a : Addr) (cls : Value) (d : Option Addr) (n : Str) (fs : List (Str × PyData)) (k : Str → Prop) (u : Stop k) : isxC (some (.xc a cls d (excD n fs))) a cls d k u = k n := propext ⟨fun ⟨m, gs, e, h⟩ => by
  simp only [Option.some.injEq, Cell.xc.injEq, true_and] at e
  obtain ⟨rfl, _⟩ := excD_inj e
  exact h, fun h => ⟨n, fs, rfl, h⟩⟩
theorem xfC_of {a : Addr} {cls : Value} {d : Option Addr} {n f : Str} {fs : List (Str × PyData)} {y : PyData} {k : PyData → Prop} {u : Stop k} (hl : fs.lookup f = some y) : xfC (some (.xc a cls d (excD n fs))) a cls d f k u = k y := propext ⟨fun ⟨m, gs, z, e, l, h⟩ => by
  simp only [Option.some.injEq, Cell.xc.injEq, true_and] at e
  obtain ⟨_, rfl⟩ := excD_inj e
  rw [hl] at l
  cases l
  exact h, fun h => ⟨n, fs, y, rfl, hl, h⟩⟩
omit [Tb] in
@[simp ↓] theorem xfC_1 (a : Addr) (cls : Value) (d : Option Addr) (n f : Str) (y : PyData) (k : PyData → Prop) (u : Stop k) : xfC (some (.xc a cls d (excD n [(f, y)]))) a cls d f k u = k y := xfC_of (by simp)
section
variable {X : Cx} {TL : XNames} {a : Addr} {oe : Obj} {cls : Value} {d : Option Addr} {pn : List (Addr × Obj)} {pos p : Pos}
/-- C(): no field -/
def wMk0 (n : Str) : DMk := fun δ Z => Z (excD n []) δ
end
end DL
set_option Elab.async false
set_option linter.all false
set_option maxRecDepth 100000
set_option maxHeartbeats 4000000
namespace DL
open PySem PySem.Spec PyProof.Rows L2
variable [Tb]
omit [Tb] in
@[simp ↓] theorem tryE_nx (i : Nat) (cat : Str → Bool) (wh : Addr → Value → Option Addr → DTS) (E : DEnds) : (tryE i cat wh E).nx = E.nx := rfl
omit [Tb] in
@[simp ↓] theorem tryE_bk (i : Nat) (cat : Str → Bool) (wh : Addr → Value → Option Addr → DTS) (E : DEnds) : (tryE i cat wh E).bk = E.bk := rfl
omit [Tb] in
@[simp ↓] theorem tryE_ct (i : Nat) (cat : Str → Bool) (wh : Addr → Value → Option Addr → DTS) (E : DEnds) : (tryE i cat wh E).ct = E.ct := rfl
theorem tryE_rt (i : Nat) (cat : Str → Bool) (wh : Addr → Value → Option Addr → DTS) (E : DEnds) (x : PyData) (δ' : DS) : (tryE i cat wh E).rt x δ' = onX x (fun x => E.rt x δ') (fun n fs => if cat n = true then ∀ (a : Addr) (cls : Value) (d : Option Addr), wh a cls d (hndE i E) (δ'.set i (.xc a cls d (excD n fs))) else E.rt (excD n fs) δ') .mk := rfl
omit [Tb] in
@[simp ↓] theorem tryE_rtX (i : Nat) (cat : Str → Bool) (wh : Addr → Value → Option Addr → DTS) (E : DEnds) (n : Str) (fs : List (Str × PyData)) (δ' : DS) : (tryE i cat wh E).rt (excD n fs) δ' = if cat n = true then ∀ (a : Addr) (cls : Value) (d : Option Addr), wh a cls d (hndE i E) (δ'.set i (.xc a cls d (excD n fs))) else E.rt (excD n fs) δ' := by rw [tryE_rt, onX_exc]
theorem tryE_rtN {i : Nat} {cat : Str → Bool} {wh : Addr → Value → Option Addr → DTS} {E : DEnds} {x : PyData} {δ' : DS} (h : notX x) : (tryE i cat wh E).rt x δ' = E.rt x δ' := by rw [tryE_rt, onX_of h]
omit [Tb] in
@[simp ↓] theorem tryE_rt_tup (i : Nat) (cat : Str → Bool) (wh : Addr → Value → Option Addr → DTS) (E : DEnds) (xs : List PyData) (δ' : DS) : (tryE i cat wh E).rt (.tuple xs) δ' = E.rt (.tuple xs) δ' := tryE_rtN (notX_tup xs)
omit [Tb] in
@[simp ↓] theorem tryE_rt_list (i : Nat) (cat : Str → Bool) (wh : Addr → Value → Option Addr → DTS) (E : DEnds) (xs : List PyData) (δ' : DS) : (tryE i cat wh E).rt (.list xs) δ' = E.rt (.list xs) δ' := tryE_rtN (notX_list xs)
omit [Tb] in
@[simp ↓] theorem tryE_rt_bool (i : Nat) (cat : Str → Bool) (wh : Addr → Value → Option Addr → DTS) (E : DEnds) (b : Bool) (δ' : DS) : (tryE i cat wh E).rt (.bool b) δ' = E.rt (.bool b) δ' := tryE_rtN (notX_bool b)
omit [Tb] in
@[simp ↓] theorem hndE_nx (i : Nat) (E : DEnds) (δ : DS) : (hndE i E).nx δ = E.nx (δ.set i .em) := rfl
omit [Tb] in
@[simp ↓] theorem hndE_rt (i : Nat) (E : DEnds) (x : PyData) (δ : DS) : (hndE i E).rt x δ = E.rt x (δ.set i .em) := rfl
omit [Tb] in
@[simp ↓] theorem noXE_nx (E : DEnds) : (noXE E).nx = E.nx := rfl
omit [Tb] in
@[simp ↓] theorem noXE_bk (E : DEnds) : (noXE E).bk = E.bk := rfl
omit [Tb] in
@[simp ↓] theorem noXE_ct (E : DEnds) : (noXE E).ct = E.ct := rfl
omit [Tb] in
@[simp ↓] theorem noXE_rt (E : DEnds) (x : PyData) (δ : DS) : (noXE E).rt x δ = (notX x ∧ E.rt x δ) := rfl
omit [Tb] in
@[simp ↓] theorem wTry_ap (i : Nat) (cat : Str → Bool) (wb : DTS) (wh : Addr → Value → Option Addr → DTS) (E : DEnds) (δ : DS) : wTry i cat wb wh E δ = wb (tryE i cat wh E) δ := rfl
omit [Tb] in
@[simp ↓] theorem wNoX_ap (w : DTS) (E : DEnds) (δ : DS) : wNoX w E δ = w (noXE E) δ := rfl
omit [Tb] in
@[simp ↓] theorem wRetX_ap (w : DEX) (E : DEnds) (δ : DS) : wRetX w E δ = w δ (fun o δ1 => lk o δ1 fun x δ2 => E.rt x δ2) E.rt := rfl
omit [Tb] in
@[simp ↓] theorem wDropX_ap (w : DEX) (E : DEnds) (δ : DS) : wDropX w E δ = w δ (fun _ δ1 => E.nx δ1) E.rt := rfl
omit [Tb] in
@[simp ↓] theorem wSetX_ap (i : Nat) (w : DEX) (E : DEnds) (δ : DS) : wSetX i w E δ = w δ (fun o δ1 => lk o δ1 fun x δ2 => E.nx (δ2.set i (.d x))) E.rt := rfl
omit [Tb] in
@[simp ↓] theorem wAsgGX_ap (w : DEX) (g : DTG) (E : DEnds) (δ : DS) : wAsgGX w g E δ = w δ (fun o δ1 => lk o δ1 fun x δ2 => g x δ2 E.nx) E.rt := rfl
omit [Tb] in
@[simp ↓] theorem wRaise_ap (w : DMk) (E : DEnds) (δ : DS) : wRaise w E δ = w δ E.rt := rfl
omit [Tb] in
@[simp ↓] theorem wMk0_ap (n : Str) (δ : DS) (Z : PyData → DS → Prop) : wMk0 n δ Z = Z (excD n []) δ := rfl
omit [Tb] in
@[simp ↓] theorem wMk1_ap (n f : Str) (w : DA) (δ : DS) (Z : PyData → DS → Prop) : wMk1 n f w δ Z = w δ fun os δ1 => lkL os δ1 fun xs δ2 => match xs with
  | [x] => Z (excD n [(f, x)]) δ2
  | _ => False := by
  unfold wMk1
  congr 1; funext os δ1; congr 1; funext xs δ2
  match xs with
  | [] => simp
  | [x] => simp
  | x :: y :: l => simp
omit [Tb] in
@[simp ↓] theorem wMk2_ap (n f g : Str) (w : DA) (δ : DS) (Z : PyData → DS → Prop) : wMk2 n f g w δ Z = w δ fun os δ1 => lkL os δ1 fun xs δ2 => match xs with
  | [x, y] => Z (excD n [(g, y), (f, x)]) δ2
  | _ => False := by
  unfold wMk2
  congr 1; funext os δ1; congr 1; funext xs δ2
  match xs with
  | [] => simp
  | [x] => simp
  | [x, y] => exact propext ⟨fun ⟨a, b, e, h⟩ => by cases e; exact h, fun h => ⟨x, y, rfl, h⟩⟩
  | x :: y :: z :: l => simp
omit [Tb] in
@[simp ↓] theorem axNil_ap (δ : DS) (R : List Opd → DS → Prop) (Z : PyData → DS → Prop) : axNil δ R Z = R [] δ := rfl
omit [Tb] in
@[simp ↓] theorem axCons_ap (w : DEX) (r : DAX) (δ : DS) (R : List Opd → DS → Prop) (Z : PyData → DS → Prop) : axCons w r δ R Z = w δ (fun o δ1 => r δ1 (fun os δ2 => R (o :: os) δ2) Z) Z := rfl
omit [Tb] in
@[simp ↓] theorem xE_ap (w : DE) (δ : DS) (R : Opd → DS → Prop) (Z : PyData → DS → Prop) : xE w δ R Z = w δ R := rfl
omit [Tb] in
@[simp ↓] theorem xA_ap (w : DA) (δ : DS) (R : List Opd → DS → Prop) (Z : PyData → DS → Prop) : xA w δ R Z = w δ R := rfl
def noZ : PyData → DS → Prop := fun _ _ => False
omit [Tb] in
@[simp ↓] theorem nX_ap (w : DEX) (δ : DS) (R : Opd → DS → Prop) : nX w δ R = w δ R noZ := rfl
omit [Tb] in
@[simp ↓] theorem noZ_ap (x : PyData) (δ : DS) : noZ x δ = False := rfl
omit [Tb] in
@[simp ↓] theorem wTupX_ap (w : DAX) (δ : DS) (R : Opd → DS → Prop) (Z : PyData → DS → Prop) : wTupX w δ R Z = w δ (fun os δ1 => lkL os δ1 fun xs δ2 => xs.length ≤ 1000 ∧ R (.d (.tuple xs)) δ2) Z := rfl
omit [Tb] in
@[simp ↓] theorem wLstX_ap (w : DAX) (δ : DS) (R : Opd → DS → Prop) (Z : PyData → DS → Prop) : wLstX w δ R Z = w δ (fun os δ1 => lkL os δ1 fun xs δ2 => xs.length ≤ 1000 ∧ R (.d (.list xs)) δ2) Z := rfl
omit [Tb] in
@[simp ↓] theorem wIfEX_ap (t : DT) (wa wb : DEX) (δ : DS) (R : Opd → DS → Prop) (Z : PyData → DS → Prop) : wIfEX t wa wb δ R Z = t δ fun k δ1 => if k = true then wa δ1 R Z else wb δ1 R Z := rfl
omit [Tb] in
@[simp ↓] theorem wCallX_ap (m : List Bool) (sp : DSp) (w : DAX) (δ : DS) (R : Opd → DS → Prop) (Z : PyData → DS → Prop) : wCallX m sp w δ R Z = w δ (fun os δ1 => lkM m os δ1 fun os' δ2 => (slotsOf os').Nodup ∧ ask sp (os'.map (cellOf δ2)) (fun x cs => onX x (fun x => R (.d x) (putBack os' cs δ2)) (fun n fs => Z (excD n fs) (putBack os' cs δ2)) .mk) .mk) Z := rfl
end DL
set_option Elab.async false
set_option linter.all false
set_option maxRecDepth 100000
set_option maxHeartbeats 4000000
namespace DL
open PySem PySem.Spec PyProof.Rows L2 NdefX
variable [Tb]
/-- the class C named n -/
structure CF (K : PySem.W.Frag) (n : Str) (C : Addr) : Prop where
  T : OexC K C
  nm : (PySem.W.clsIn K C).map (·.name) = some n
  xf : XfC K C
  ec : ExcC K C
section
variable {X : Cx} {TL : XNames} {p pos : Pos} {e : Expr} {es : List Expr} {n f g : Str} {wa : DA}
end
section
variable {X : Cx} {TL : XNames}
variable {a : Addr} {oe : Obj} {cls : Value} {d : Option Addr} {pn : List (Addr × Obj)} {pos p : Pos}
end
section
open PySem.W
variable {P : Program} {w : World} {K : Frag} {mg : Str → Option Value} {base h : Heap} {TL : XNames}
end
section
variable {X : Cx} {TL : XNames} {x : Str} {e : Expr} {pos p : Pos}
variable {a : Addr} {oe : Obj} {cls : Value} {d : Option Addr} {pn : List (Addr × Obj)}
end
end DL
set_option Elab.async false
set_option linter.all false
set_option maxRecDepth 100000
set_option maxHeartbeats 4000000
namespace DL
open PySem PySem.Spec PyProof.Rows L2
variable [Tb]
def wCallXK (n : Nat) (ix : List Nat) (sp : DSp) (w : DA) : DEX := fun δ R Z => w δ fun os δ1 => lkM [] os δ1 fun os' δ2 => (os'.length = n ∧ ∀ i ∈ ix, i < n) ∧ (slotsOf (permO (.d .none) ix os')).Nodup ∧ sp ((permO (.d .none) ix os').map (cellOf δ2)) fun x cs => onX x (fun x => R (.d x) (putBack (permO (.d .none) ix os') cs δ2)) (fun n fs => Z (excD n fs) (putBack (permO (.d .none) ix os') cs δ2)) .mk
section
variable {X : Cx} {TL : XNames} {CX : CXT} {k : Nat} {f : Addr} {fd : FuncData} {ps ks : List Str} {x : Str} {p pos : Pos} {kws : List Keyword} {ix : List Nat}
end
omit [Tb] in
@[simp ↓] theorem wCallXK_ap (n : Nat) (ix : List Nat) (sp : DSp) (w : DA) (δ : DS) (R : Opd → DS → Prop) (Z : PyData → DS → Prop) : wCallXK n ix sp w δ R Z = (w δ fun os δ1 => lkM [] os δ1 fun os' δ2 => (os'.length = n ∧ ∀ i ∈ ix, i < n) ∧ (slotsOf (permO (.d .none) ix os')).Nodup ∧ ask sp ((permO (.d .none) ix os').map (cellOf δ2)) (fun x cs => onX x (fun x => R (.d x) (putBack (permO (.d .none) ix os') cs δ2)) (fun n fs => Z (excD n fs) (putBack (permO (.d .none) ix os') cs δ2)) .mk) .mk) := rfl
end DL
set_option Elab.async false
set_option linter.all false
set_option maxRecDepth 100000
set_option maxHeartbeats 4000000
namespace DL
open PySem PySem.Spec PyProof.Rows L2
variable [Tb]
def comp2It (g : DTG) (t : DT) (wi1 : DL) (g1 : DTG) (t1 : DT) (e : DE) (vs vs1 : List Nat) : List PyData → List PyData → DS → (List PyData → DS → Prop) → Prop
  | [], acc, δ, R => R acc δ
  | x :: xs, acc, δ, R => g x δ fun δ1 => t δ1 fun b δ2 => if b = true then wi1 δ2 fun zs δ3 => acc.length + zs.length ≤ 1000000 ∧ comC g1 t1 e vs1 zs acc (wipeD δ3 vs1) (fun acc' δ4 => comp2It g t wi1 g1 t1 e vs vs1 xs acc' (wipeD δ4 vs) R) .mk else comp2It g t wi1 g1 t1 e vs vs1 xs acc (wipeD δ2 vs) R
def com2C (g : DTG) (t : DT) (wi1 : DL) (g1 : DTG) (t1 : DT) (e : DE) (vs vs1 : List Nat) (xs acc : List PyData) (δ : DS) (R : List PyData → DS → Prop) (_u : Stop R) : Prop := comp2It g t wi1 g1 t1 e vs vs1 xs acc δ R
def wComp2 (wi : DL) (g : DTG) (t : DT) (wi1 : DL) (g1 : DTG) (t1 : DT) (e : DE) (vs vs1 : List Nat) : DL := fun δ R => wi δ fun xs δ1 => com2C g t wi1 g1 t1 e vs vs1 xs [] (wipeD δ1 vs) (fun ys δ2 => R ys (backD δ1 δ2 vs)) .mk
@[simp ↓] theorem wComp2_ap (wi : DL) (g : DTG) (t : DT) (wi1 : DL) (g1 : DTG) (t1 : DT) (e : DE) (vs vs1 : List Nat) (δ : DS) (R : List PyData → DS → Prop) : wComp2 wi g t wi1 g1 t1 e vs vs1 δ R = (wi δ fun xs δ1 => com2C g t wi1 g1 t1 e vs vs1 xs [] (wipeD δ1 vs) (fun ys δ2 => R ys (backD δ1 δ2 vs)) .mk) := rfl
section
variable {g : DTG} {t : DT} {wi1 : DL} {g1 : DTG} {t1 : DT} {e : DE} {vs vs1 : List Nat} {δ : DS}
/-- the inner walk, behind what is there already -/
theorem com_mapA {α : Type} {R : List PyData → DS → Prop} {u : Stop R} {xs acc0 : List PyData} (as : List α) (d : α → PyData) (hx : xs = as.map d) (f : α → Option PyData)
    (hs : ∀ a ∈ as, ∀ (acc : List PyData) (K : List PyData → DS → Prop), K (acc ++ (f a).toList) δ → g (d a) δ fun δ1 => t δ1 fun b δ2 => if b = true then e δ2 fun o δ3 => lk o δ3 fun y δ4 => K (acc ++ [y]) (wipeD δ4 vs) else K acc (wipeD δ2 vs)) (k : R (acc0 ++ as.filterMap f) δ) : comC g t e vs xs acc0 δ R u := by
  subst hx
  refine com_inv (fun ys acc δ' => δ' = δ ∧ ∃ bs : List α, ys = bs.map d ∧ (∀ b ∈ bs, b ∈ as) ∧ acc ++ bs.filterMap f = acc0 ++ as.filterMap f) ⟨rfl, as, rfl, fun _ h => h, rfl⟩ ?_ ?_
  · rintro acc δ' ⟨rfl, bs, eb, _, h⟩
    obtain rfl : bs = [] := List.map_eq_nil_iff.mp eb.symm
    rw [List.filterMap_nil, List.append_nil] at h
    rw [h]; exact k
  · rintro x ys acc δ' ⟨rfl, bs, eb, hm, h⟩ K hK
    obtain ⟨b, bs', rfl, rfl, rfl⟩ := List.map_eq_cons_iff.mp eb.symm
    refine hs b (hm b (by simp)) acc K (hK _ _ ⟨rfl, bs', rfl, fun c hc => hm c (by simp [hc]), ?_⟩)
    rw [← h, List.filterMap_cons]
    cases f b <;> simp
/-- what comes of each item of the outer walk, put behind one another -/
theorem com2_map {α : Type} {R : List PyData → DS → Prop} {u : Stop R} {xs : List PyData} (as : List α) (d : α → PyData) (hx : xs = as.map d) (f : α → List PyData)
    (hs : ∀ pre a post, as = pre ++ a :: post → ∀ K : List PyData → DS → Prop, K (pre.flatMap f ++ f a) δ → g (d a) δ fun δ1 => t δ1 fun b δ2 => if b = true then wi1 δ2 fun zs δ3 => (pre.flatMap f).length + zs.length ≤ 1000000 ∧ comC g1 t1 e vs1 zs (pre.flatMap f) (wipeD δ3 vs1) (fun acc' δ4 => K acc' (wipeD δ4 vs)) .mk else K (pre.flatMap f) (wipeD δ2 vs))
    (k : R (as.flatMap f) δ) : com2C g t wi1 g1 t1 e vs vs1 xs [] δ R u := by
  subst hx
  show comp2It g t wi1 g1 t1 e vs vs1 _ _ _ _
  have go : ∀ (post pre : List α), as = pre ++ post → comp2It g t wi1 g1 t1 e vs vs1 (post.map d) (pre.flatMap f) δ R := by
    intro post
    induction post with
    | nil =>
      intro pre e
      rw [List.append_nil] at e
      rw [← e]; exact k
    | cons a post ih =>
      intro pre e
      refine hs pre a post e (fun acc' δ' => comp2It g t wi1 g1 t1 _ vs vs1 (post.map d) acc' δ' R) ?_
      have := ih (pre ++ [a]) (by rw [e]; simp)
      rw [List.flatMap_append, List.flatMap_singleton] at this
      exact this
  exact go as [] rfl
end
section
variable {X : Cx} {pos : Pos}
theorem comp2_up {wi wi1 : DL} {g g1 : DTG} {t t1 : DT} {e : DE} {ts ts1 vs vs1 : List Nat} {K : PySem.W.Frag} {σ : L2.St} {H : Hp} {Q : VK} (hts : ∀ t ∈ ts, t ∈ vs) (hts1 : ∀ t ∈ ts1, t ∈ vs1) (h : upL K (wComp2 wi g t wi1 g1 t1 e vs vs1) σ H Q) : tLc2 (upI K wi) (upG K ts g) (upT K t) (upI K wi1) (upG K ts1 g1) (upT K t1) (up K e) vs vs1 σ H Q := by
  obtain ⟨B, G, δ, R, rel, hw, k⟩ := h
  refine ⟨B, G, δ, _, rel, hw, fun J H1 G1 xs δ1 r1 s1 rel1 wk hl D nD => ?_⟩
  have bD := rel1.freeB nD
  refine ⟨fun i m H' => m = xs.length - i ∧ i ≤ xs.length ∧ ∃ accV accD G2 δ2, Same G1 G2 ∧ Rel K (upd B D (.lst accV)) G2 (wipeD δ2 vs) (wipe σ vs) H' ∧ DnL K G2 accV accD ∧ comp2It g t wi1 g1 t1 e vs vs1 (xs.drop i) accD (wipeD δ2 vs) (fun ys δ2 => R ys (backD δ1 δ2 vs)),
    ⟨xs.length, by simp, Nat.zero_le _, [], [], G1, δ1, Same.refl _, (rel1.growB nD).wipe vs, .nil, by simpa [com2C] using r1⟩, ?_⟩
  rintro i m H2 ⟨rfl, hi, accV, accD, G2, δ2, s2, rel2, dacc, q⟩
  obtain ⟨go, stop, yld⟩ := wk _ G2 _ _ H2 s2 rel2
  by_cases hlt : i < xs.length
  · have ed : xs.drop i = xs[i] :: xs.drop (i + 1) := List.drop_eq_getElem_cons hlt
    rw [ed] at q
    refine .inr ⟨go i hlt, fun H' => ∃ accV accD G3 δ3, Same G1 G3 ∧ Rel K (upd B D (.lst accV)) G3 (wipeD δ3 vs) (wipe σ vs) H' ∧ DnL K G3 accV accD ∧ comp2It g t wi1 g1 t1 e vs vs1 (xs.drop (i + 1)) accD (wipeD δ3 vs) (fun ys δ2 => R ys (backD δ1 δ2 vs)),
      fun H' ⟨a1, a2, a3, a4, a5, a6, a7, a9⟩ => ⟨xs.length - (i + 1), by omega, rfl, hlt, a1, a2, a3, a4, a5, a6, a7, a9⟩, fun x H3 y => ?_⟩
    obtain ⟨G3, s3, rel3, dn⟩ := yld i x _ H3 (List.getElem?_eq_getElem hlt) y
    refine ⟨_, G3, _, _, _, rel3, dn, q, fun σ4 H4 G4 δ4 r4 s4 rel4 ho => ?_⟩
    have ew : wipe σ4 vs = wipe σ vs := by rw [ho vs hts, wipe_wipe]
    refine ⟨ew, _, G4, δ4, _, rel4, r4, fun b H5 G5 δ5 r5 s5 rel5 => ?_⟩
    cases b with
    | false =>
      rw [if_neg Bool.false_ne_true] at r5 ⊢
      have R6 := rel5.wipe vs
      rw [ew] at R6
      exact ⟨accV, accD, G5, δ5, s2.trans (s3.trans (s4.trans s5)), R6, DnL.mono (s3.trans (s4.trans s5)) _ dacc, r5⟩
    | true =>
      rw [if_pos rfl] at r5 ⊢
      refine ⟨_, G5, δ5, _, rel5, r5, fun J1 H6 G6 zs δ6 r6 s6 rel6 wk1 hl1 => ?_⟩
      obtain ⟨r6a, r6⟩ := r6
      have s26 := s2.trans (s3.trans (s4.trans (s5.trans s6)))
      have dacc6 := DnL.mono (s3.trans (s4.trans (s5.trans s6))) _ dacc
      refine ⟨fun j m H' => m = zs.length - j ∧ j ≤ zs.length ∧ ∃ accV' accD' G7 δ7, Same G6 G7 ∧ Rel K (upd B D (.lst accV')) G7 (wipeD δ7 vs1) (wipe σ4 vs1) H' ∧ DnL K G7 accV' accD' ∧ accV'.length ≤ accV.length + j ∧ compIt g1 t1 e vs1 (zs.drop j) accD' (wipeD δ7 vs1) (fun acc' δ4 => comp2It g t wi1 g1 t1 e vs vs1 (xs.drop (i + 1)) acc' (wipeD δ4 vs) (fun ys δ2 => R ys (backD δ1 δ2 vs))),
        ⟨zs.length, by simp, Nat.zero_le _, accV, accD, G6, δ6, Same.refl _, rel6.wipe vs1, dacc6, by omega, by simpa [comC] using r6⟩, ?_⟩
      rintro j m1 H7 ⟨rfl, hj, accV', accD', G7, δ7, s7, rel7, dacc7, hal7, q7⟩
      obtain ⟨go1, stop1, yld1⟩ := wk1 _ G7 _ _ H7 s7 rel7
      by_cases hlt1 : j < zs.length
      · have ed1 : zs.drop j = zs[j] :: zs.drop (j + 1) := List.drop_eq_getElem_cons hlt1
        rw [ed1] at q7
        refine .inr ⟨go1 j hlt1, fun H' => ∃ accV' accD' G8 δ8, Same G6 G8 ∧ Rel K (upd B D (.lst accV')) G8 (wipeD δ8 vs1) (wipe σ4 vs1) H' ∧ DnL K G8 accV' accD' ∧ accV'.length ≤ accV.length + (j + 1) ∧ compIt g1 t1 e vs1 (zs.drop (j + 1)) accD' (wipeD δ8 vs1) (fun acc' δ4 => comp2It g t wi1 g1 t1 e vs vs1 (xs.drop (i + 1)) acc' (wipeD δ4 vs) (fun ys δ2 => R ys (backD δ1 δ2 vs))),
          fun H' ⟨a1, a2, a3, a4, a5, a6, a7, a8, a9⟩ => ⟨zs.length - (j + 1), by omega, rfl, hlt1, a1, a2, a3, a4, a5, a6, a7, a8, a9⟩, fun x1 H8 y1 => ?_⟩
        obtain ⟨G8, s8, rel8, dn8⟩ := yld1 j x1 _ H8 (List.getElem?_eq_getElem hlt1) y1
        refine ⟨_, G8, _, _, _, rel8, dn8, q7, fun σ9 H9 G9 δ9 r9 s9 rel9 ho9 => ?_⟩
        have ew1 : wipe σ9 vs1 = wipe σ4 vs1 := by rw [ho9 vs1 hts1, wipe_wipe]
        refine ⟨ew1, _, G9, δ9, _, rel9, r9, fun b H10 G10 δ10 r10 s10 rel10 => ?_⟩
        cases b with
        | false =>
          rw [if_neg Bool.false_ne_true] at r10 ⊢
          have R11 := rel10.wipe vs1
          rw [ew1] at R11
          exact ⟨accV', accD', G10, δ10, s7.trans (s8.trans (s9.trans s10)), R11, DnL.mono (s8.trans (s9.trans s10)) _ dacc7, by omega, r10⟩
        | true =>
          rw [if_pos rfl] at r10 ⊢
          refine ⟨_, G10, δ10, _, rel10, r10, fun v H11 G11 o δ11 r11 s11 rel11 ok11 => ?_⟩
          obtain ⟨G12, δ12, z, q12, s12, rel12, dz⟩ := lk_ok rel11 ok11 r11
          have dl := dacc6.len
          have dl0 := dacc.len
          refine ⟨accV', rel12.sb _ _ upd_same, by rw [sizeLine_eq]; omega, accV' ++ [v], accD' ++ [z], G12, δ12, s7.trans (s8.trans (s9.trans (s10.trans (s11.trans s12)))), ?_, (DnL.mono (s8.trans (s9.trans (s10.trans (s11.trans s12)))) _ dacc7).app (.cons dz .nil), by simp; omega, q12⟩
          have R13 := (rel12.putB (p := D) (o := .lst (accV' ++ [v])) upd_same notTE_lst).wipe vs1
          rw [upd_upd, ew1] at R13
          exact R13
      · have e1 : j = zs.length := by omega
        subst e1
        rw [List.drop_length] at q7
        refine .inl ⟨stop1, ?_⟩
        have R14 := rel7.unwipe.wipe vs
        rw [ew] at R14
        exact ⟨accV', accD', G7, wipeD δ7 vs1, s26.trans s7, R14, dacc7, q7⟩
  · have e1 : i = xs.length := by omega
    subst e1
    rw [List.drop_length] at q
    refine .inl ⟨stop, ?_⟩
    exact k D accV H2 G2 accD _ q (s1.trans s2) (rel2.unwipe.back rel1 s2 vs) bD dacc
theorem js_setC2E {i : Nat} {y : Str} {py spos : Pos} {elt tg iter tg1 iter1 : Expr} {ifs ifs1 : List Expr} {scope : Scope} {own : List (Str × Nat)} {wi wi1 : DL} {g g1 : DTG} {t t1 : DT} {e : DE} {ts ts1 vs1 : List Nat} (hc : X.calm = true) (hN : X.N.Nodup) (hy : X.N[i]? = some y) (hyl : X.env.scope.names.lookup y = some .local)
    (hsw : swapsWith (.ListComp elt [⟨tg, iter, ifs, 0⟩, ⟨tg1, iter1, ifs1, 0⟩] scope pos) (some (.Name y py)) spos.line X.env = pure true) (hi : JI X tg iter wi) (ok : BlkOk X.N X.env.scope scope own) (hts : ∀ t ∈ ts, t ∈ own.map (·.2)) (hts1 : ∀ t ∈ ts1, t ∈ vs1) (hv : ∀ i ∈ vs1, i ∈ own.map (·.2))
    (hg : ∀ (s : Shared) (H : Hp) (C : Addr) (cl : List (Str × Addr)) (fp : List Addr), JG (X.blk s H scope (compEnvC scope cl C X.env) fp) tg ts g) (ht : ∀ (s : Shared) (H : Hp) (C : Addr) (cl : List (Str × Addr)) (fp : List Addr), JTs (X.blk s H scope (compEnvC scope cl C X.env) fp) ifs t)
    (hi1 : ∀ (s : Shared) (H : Hp) (C : Addr) (cl : List (Str × Addr)) (fp : List Addr), JI (X.blk s H scope (compEnvC scope cl C X.env) fp) tg1 iter1 wi1)
    (hg1 : ∀ (s : Shared) (H : Hp) (C : Addr) (cl : List (Str × Addr)) (fp : List Addr), JG (X.blk s H scope (compEnvC scope cl C X.env) fp) tg1 ts1 g1) (ht1 : ∀ (s : Shared) (H : Hp) (C : Addr) (cl : List (Str × Addr)) (fp : List Addr), JTs (X.blk s H scope (compEnvC scope cl C X.env) fp) ifs1 t1)
    (he : ∀ (s : Shared) (H : Hp) (C : Addr) (cl : List (Str × Addr)) (fp : List Addr), JE (X.blk s H scope (compEnvC scope cl C X.env) fp) elt e) (hs : ∀ x, foldedSetIterable iter X.env x = pure x := by intro _; rfl) (hs1 : ∀ env x, foldedSetIterable iter1 env x = pure x := by intro _ _; rfl) :
    JS X (.Assign [.Name y py] (.ListComp elt [⟨tg, iter, ifs, 0⟩, ⟨tg1, iter1, ifs1, 0⟩] scope pos) spos) (wSet i (mE (wOfL (wComp2 wi g t wi1 g1 t1 e (own.map (·.2)) vs1)))) :=
  js_asg (ps_setLc2 hc hN hy hyl hsw hi ok hv hg ht hi1 hg1 ht1 he hs hs1) fun σ H Q h => comp2_up hts hts1 (up_l (upM_e h))
end
end DL
set_option Elab.async false
set_option linter.all false
set_option maxRecDepth 100000
set_option maxHeartbeats 4000000
namespace DL
open PySem PySem.Spec PyProof.Rows L2
section
variable {X : Cx} {pins : List (Addr × Obj)} {σ : L2.St} {H : Hp} {s : Shared} {d : Addr} {o : Obj} {kvs : List (List Key × V)}
theorem frzT_raw (I : Inv X pins σ H s) (h : H d = some (.frz o (.dT kvs))) : (d == sysModules) = false ∧ ∃ (es : Array DictEntry) (ep : Nat), s.heap.DictRaw d es ep ∧ o.data = .dict es ep ∧ es.size = kvs.length ∧
    ∀ (i : Nat) (hi : i < es.size) (k : List Key) (v : V), kvs[i]? = some (k, v) → ∃ q : Addr, es[i].key = .ref q ∧ H q = some (.tup (k.map kV)) ∧ RelV v es[i].val := by
  obtain ⟨at_d, _, off, xs, pr, o2, es, ep, at2, ex, dt, he, _⟩ := I.hok d _ h
  rw [at_d] at at2
  cases at2
  have sz := size_of_entries he
  have lk : kvs.length = xs.length := Paired.length pr
  refine ⟨off, es, ep, ⟨_, at_d, ex, dt⟩, dt, by omega, fun i hi k v e => ?_⟩
  obtain ⟨b, hb, e1, e2, e3⟩ := paired_get pr e
  have q := entry_at he i
  rw [hb, Array.getElem?_eq_getElem hi] at q
  have q := Option.some.inj q
  exact ⟨b.2.1, by rw [q]; rfl, e2, by rw [q]; exact e3⟩
end
/-- keys with their values, each a new tuple -/
def ItpT (d : Addr) (o : Obj) (kvs : List (List Key × V)) : It :=
  ⟨fun i H => H d = some (.frz o (.dT kvs)) ∧ i < kvs.length,
   fun i H x H' => ∃ (p q : Addr) (ob : Obj) (k : List Key) (v : V), kvs[i]? = some (k, v) ∧ ob.dict = none ∧ H q = some (.tup (k.map kV)) ∧ x = .ref p ∧ H p = none ∧ H' = upd H p (tupH ob [.ref q, v]),
   fun i H => H d = some (.frz o (.dT kvs)) ∧ kvs.length ≤ i⟩
section
variable {P : Program} {w : World} {K : PySem.W.Frag} {d : Addr} {o : Obj} {es : Array DictEntry} {ep : Nat} {kvs : List (List Key × V)}
theorem turn_pT {elts : List Expr} {kk : Nat} {tpos : Pos} (it : Addr) (od : o.data = .dict es ep) : Turn P w K (.Tuple elts kk tpos) (ItpT d o kvs) [it] it (fun i h => ∃ a b, IsItemIter h it d i es.size ep a b) := by
  have alone : ∀ {b : Addr}, b ∈ [it] → b = it := fun m => by simpa using m
  have sit : ∀ {h : Heap} {i : Nat} {a b : Value}, IsItemIter h it d i es.size ep a b → Sits [it] h := fun st => .put st nofun .nil
  refine ⟨List.mem_singleton.mpr rfl, fun i h ⟨_, _, st⟩ => sit st, fun i h h' ⟨a, b, st⟩ k => ⟨a, b, k it (List.mem_singleton.mpr rfl) _ st⟩, ?_, ?_, fun _ _ _ _ _ ⟨_, _, st⟩ => PySem.W.kcp_self st⟩
  · rintro X rfl rfl rfl hc i pins s σ H E I own ⟨a, b, st⟩ ⟨at_d, hi⟩
    obtain ⟨_, es2, ep2, raw, od2, sz, ent⟩ := frzT_raw I at_d
    rw [od] at od2
    cases od2
    have hi2 : i < es.size := by omega
    obtain ⟨q, ek, eq, rv⟩ := ent i hi2 kvs[i].1 kvs[i].2 (List.getElem?_eq_getElem hi)
    have old : it ≠ s.heap.objs.size := Nat.ne_of_lt (Heap.lt_size st)
    refine wpAny_pyNext_items_item_raw st raw hi2 fun h' st' top _ keep => ⟨_, rfl, ?_⟩
    refine wpAny_letOwnedTupleGo_items (s := { s with heap := h' }) st' fun h2 st2 but => ?_
    obtain ⟨I', new, none'⟩ := row_laid (h' := h2) (tk := s.toks) I own (sit st) (fun c ob m e => (but.2 c fun z => m (List.mem_singleton.mpr z)).trans (keep c ob (fun z => m (List.mem_singleton.mpr z)) e))
      (row := [.ref q, kvs[i].2]) (us := [es[i].key, es[i].val]) (show 2 ≤ sizeLine by decide) (.cons (show RelV (.ref q) es[i].key from ek) (.cons rv .nil)) ((but.2 _ old.symm).trans top)
    exact ⟨.ref s.heap.objs.size, _, I', rfl, ⟨_, q, _, kvs[i].1, kvs[i].2, List.getElem?_eq_getElem hi, rfl, eq, rfl, new, rfl⟩, ⟨_, _, st2⟩, none'⟩
  · rintro X rfl rfl rfl hc i pins s σ H E I own ⟨a, b, st⟩ ⟨at_d, hi⟩
    obtain ⟨f0, f1, f2, f3, f4, f5⟩ := own it (List.mem_singleton.mpr rfl)
    obtain ⟨_, es2, ep2, raw, od2, sz, _⟩ := frzT_raw I at_d
    rw [od] at od2
    cases od2
    exact wpAny_pyNext_items_end_raw (I.ok.hd hc) st raw (by omega) fun h' eb => ⟨rfl, I.turned (t' := s.toks) (fun b ob ne q => eb b ob ne q) f0 f1 f3 f4 f5⟩
end
def iPT (td : TE) : TI := fun σ H R => td σ H fun x H1 => ∃ d o kvs, x = .ref d ∧ H1 d = some (.frz o (.dT kvs)) ∧ R (ItpT d o kvs) H1
section
variable {X : Cx} {e : Expr} {td : TE} {apos cpos : Pos}
theorem pi_pT {elts : List Expr} {kk : Nat} {tpos : Pos} (he : PE X e td) (hb : attributeBase e "items" X.env (eval e X.env) = eval e X.env := by rfl) (hl : (apos.endLine == cpos.line) = true := by rfl) : PI X (.Tuple elts kk tpos) (.Call (.Attribute e "items" apos) [] [] cpos) (iPT td) := ⟨fun pins s σ H R I h => by
  refine wpAny_Call_method (T := "dict") (id := "dict.items") hb rfl hl F.plainAttrs_dict F.slot_dict_items F.type_dict_items (wpAny_mono (he.run pins s σ H _ I h) ?_ fun _ _ z => z)
  rintro _ s1 ⟨_, H1, I1, r1, d, o, kvs, rfl, at_d, q⟩
  cases r1
  obtain ⟨off, es, ep, raw, od, sz, _⟩ := frzT_raw I1 at_d
  have keep : ∀ {ob : Obj} b u, s1.heap.get? b = some u → (s1.heap.push ob).get? b = some u := fun _ _ e => Heap.get?_push_of_some _ e
  have I2 : Inv X pins σ H1 { s1 with heap := s1.heap.push { cls := .type "dict_items", data := .fields #[.ref d] } } := I1.kept (t' := s1.toks) keep
  obtain ⟨ob, e1, ex, e2⟩ := id raw
  refine ⟨raw.typeIs, fun a ea => by cases ea; exact ⟨ob, e1, ex.2.1⟩, ?_⟩
  refine method_meetsIn F.slot_dict_items F.entry_dict_items rfl (PySem.evalArgs_none ⟨rfl, raw.typeIs, F.args_dict_items_1 _, _, meets_dict_items_raw d off, ⟨⟨es, ep, raw⟩, ?_⟩⟩)
  exact wpAny_pyIter_items_raw ⟨_, Heap.get?_push_size _ rfl, rfl, rfl⟩ (raw.at fun _ e => Heap.get?_push_of_some _ e) (pi_one (tk := s1.toks) I2 _ (turn_pT _ od) ⟨.none, .none, Heap.get?_push_size _ rfl⟩ q)⟩
end
variable [Tb]
/-- for v in d.values() -/
def iValsT (w : DE) : DL := fun δ R => w δ fun o δ1 => lk o δ1 fun x δ2 => dT_of x (fun kvs => kvs.length ≤ 1000000 ∧ R (kvs.map (·.2)) δ2) .mk
/-- for k, v in d.items() -/
def iItemsT (w : DE) : DL := fun δ R => w δ fun o δ1 => lk o δ1 fun x δ2 => dT_of x (fun kvs => kvs.length ≤ 1000000 ∧ (∀ p ∈ kvs, p.1 ≠ []) ∧ R (prK kvs) δ2) .mk
omit [Tb] in
@[simp ↓] theorem iValsT_ap (w : DE) (δ : DS) (R : List PyData → DS → Prop) : iValsT w δ R = (w δ fun o δ1 => lk o δ1 fun x δ2 => dT_of x (fun kvs => kvs.length ≤ 1000000 ∧ R (kvs.map (·.2)) δ2) .mk) := rfl
omit [Tb] in
@[simp ↓] theorem iItemsT_ap (w : DE) (δ : DS) (R : List PyData → DS → Prop) : iItemsT w δ R = (w δ fun o δ1 => lk o δ1 fun x δ2 => dT_of x (fun kvs => kvs.length ≤ 1000000 ∧ (∀ p ∈ kvs, p.1 ≠ []) ∧ R (prK kvs) δ2) .mk) := rfl
section
variable {K : PySem.W.Frag} {G : Hp} {d : Addr} {od : Obj} {ws : List (List Key × V)} {kvs : KVs}
theorem walk_pT (g : G d = some (.frz od (.dT ws))) (t : DnK K G ws kvs) (ne : ∀ p ∈ kvs, p.1 ≠ []) : WalkD K (ItpT d od ws) G (prK kvs) := fun B G2 δ σ H s rel => by
  have at_d := rel.sg _ _ (s _ _ g)
  have l := t.len
  have lp : (prK kvs).length = kvs.length := by simp [prK]
  refine ⟨fun i hi => ⟨at_d, by omega⟩, ⟨at_d, by omega⟩, fun i x y H' hy z => ?_⟩
  obtain ⟨p, q, ob, k, v, ek, hd, hq, rfl, np, rfl⟩ := z
  have hy2 := hy
  unfold prK at hy2
  rw [List.getElem?_map] at hy2
  cases e : kvs[i]? with
  | none => rw [e] at hy2; cases hy2
  | some kv =>
    rw [e] at hy2
    have hy2 : PyData.tuple [.tuple (kv.1.map PyData.int), kv.2] = y := Option.some.inj hy2
    have h1 : (ws.map (·.1))[i]? = (kvs.map fun p => keyI p.1)[i]? := by rw [t.1]
    rw [List.getElem?_map, List.getElem?_map, ek, e] at h1
    have h1 : k = keyI kv.1 := Option.some.inj h1
    obtain ⟨v2, hv2, dv⟩ := t.2.get (show (kvs.map (·.2))[i]? = some kv.2 by rw [List.getElem?_map, e]; rfl)
    rw [List.getElem?_map, ek] at hv2
    cases hv2
    rw [h1, keyI_V] at hq
    obtain ⟨G3, s3, rel3, g3⟩ := rel.seeT hq
    have dk : Dn K G3 (.ref q) (.tuple (kv.1.map PyData.int)) := by
      refine .tup ⟨tupO [], rfl, ?_⟩ (DnL.ints kv.1)
      rw [tupH, if_pos]
      · exact g3
      · have := ne kv (List.mem_of_getElem? e)
        cases e : kv.1 with
        | nil => exact absurd e this
        | cons i is => simp [numsV]
    obtain ⟨G4, s4, rel4, dn4⟩ := pair_new hd rel3 np (.cons dk (.cons ((dv.mono s).mono s3) .nil))
    exact ⟨G4, s3.trans s4, rel4, by rw [← hy2]; exact dn4⟩
end
section
variable {X : Cx} {e : Expr} {w : DE} {apos cpos : Pos}
theorem ji_itemsT {elts : List Expr} {kk : Nat} {tpos : Pos} (h : JE X e w) (hb : attributeBase e "items" X.env (eval e X.env) = eval e X.env := by rfl) (hl : (apos.endLine == cpos.line) = true := by rfl) : JI X (.Tuple elts kk tpos) (.Call (.Attribute e "items" apos) [] [] cpos) (iItemsT w) :=
  pi_le (pi_pT h hb hl) fun pins s σ H R I ⟨B, G, δ, R', rel, hw, k⟩ => ⟨B, G, δ, _, rel, hw, fun v H1 G1 o δ1 r1 s1 rel1 ok1 => by
    obtain ⟨G2, δ2, x, ⟨kvs, rfl, z, ne, q⟩, s2, rel2, dn⟩ := lk_ok rel1 ok1 r1
    obtain ⟨a, od, ws, rfl, ga, dk⟩ := dn_fT dn
    exact ⟨a, od, ws, rfl, rel2.sg _ _ ga, k _ H1 G2 _ δ2 q (s1.trans s2) rel2 (walk_pT ga dk ne) (by simp only [prK, List.length_map, sizeLine_eq]; omega)⟩⟩
end
end DL
set_option Elab.async false
set_option linter.all false
set_option maxRecDepth 100000
set_option maxHeartbeats 4000000
namespace TW
open PySem PySem.Spec PyProof.Rows L2 DL

def BIG : Int := 2 ^ 4000
theorem BIG_ge : 10 ^ 60 ≤ BIG := by decide +kernel
/-- a side, a number of any use -/
def Pos (x : Int) : Prop := 1 ≤ x ∧ x ≤ BIG
theorem Pos.of {x : Int} (h : 1 ≤ x) (h1 : x ≤ 10 ^ 60) : Pos x := ⟨h, by have := BIG_ge; omega⟩

def gcdI (a b : Int) : Int := (Int.gcd a b : Nat)
def invGo : Nat → Int → Int → Int → Int → Int
  | 0, _, _, _, later => later
  | f + 1, left, right, now, later => if left > 0 then invGo f (right - right / left * left) left (later - right / left * now) now else later
def invF (a b : Int) : Int := invGo (a % b).toNat.succ (a % b) b 1 0 % b
def timesF (a b s : Int) : Option Int := if s % gcdI a b ≠ 0 then none else some (s / gcdI a b * invF (a / gcdI a b) (b / gcdI a b) % (b / gcdI a b))
/-- is a side a sum of some of both -/
def isSum (a b s : Int) : Bool := match timesF a b s with
  | some t => decide (a * t ≤ s)
  | none => false
end TW
set_option Elab.async false
set_option linter.all false
set_option maxRecDepth 100000
set_option maxHeartbeats 4000000
namespace TW
open PySem PySem.Spec PyProof.Rows L2 DL

mutual
/-- about as long as it is shown -/
def wgt : PyData → Nat
  | .none => 8
  | .bool _ => 8
  | .int i => i.natAbs.log2 + 9
  | .str x => (PyData.shown (.str x)).length
  | .list xs => wgtL xs + 4
  | .tuple xs => wgtL xs + 4
  | .dict _ => 4
def wgtL : List PyData → Nat
  | [] => 0
  | x :: xs => wgt x + 2 + wgtL xs
end
mutual
def okd (z : Bool) : PyData → Bool
  | .none => true
  | .bool _ => true
  | .int i => decide (i.natAbs.log2 < (if z = true then 1900 else 1800))
  | .str x => PyData.strOk x
  | .list xs => okdL z xs
  | .tuple xs => okdL z xs
  | .dict kvs => z && kvs.isEmpty
def okdL (z : Bool) : List PyData → Bool
  | [] => true
  | x :: xs => okd z x && okdL z xs
end
structure Shp (z : Bool) (n w : Nat) (d : PyData) : Prop where
  ok : okd z d = true
  dp : d.depth ≤ n
  wt : wgt d ≤ w
structure ShpL (z : Bool) (n w : Nat) (xs : List PyData) : Prop where
  ok : okdL z xs = true
  dp : PyData.depthAll xs ≤ n
  wt : wgtL xs ≤ w
theorem Shp.mono {z : Bool} {n m w v : Nat} {d : PyData} (h : Shp z n w d) (hn : n ≤ m) (hw : w ≤ v) : Shp z m v d := ⟨h.ok, Nat.le_trans h.dp hn, Nat.le_trans h.wt hw⟩
theorem ShpL.nil {z : Bool} {n : Nat} : ShpL z n 0 [] := ⟨by simp [okdL], by simp [PyData.depthAll], by simp [wgtL]⟩
theorem ShpL.cons {z : Bool} {n w v : Nat} {x : PyData} {xs : List PyData} (h : Shp z n w x) (t : ShpL z n v xs) : ShpL z n (w + 2 + v) (x :: xs) :=
  ⟨by simp [okdL, h.ok, t.ok], by have := h.dp; have := t.dp; simp [PyData.depthAll]; omega, by have := h.wt; have := t.wt; simp only [wgtL]; omega⟩
theorem ShpL.of {z : Bool} {n w : Nat} : ∀ {xs : List PyData}, (∀ x ∈ xs, Shp z n w x) → ShpL z n (xs.length * (w + 2)) xs
  | [], _ => by simpa using ShpL.nil
  | x :: xs, h => by
    have := ShpL.cons (h x (List.mem_cons_self ..)) (ShpL.of fun y hy => h y (List.mem_cons_of_mem _ hy))
    have e : w + 2 + xs.length * (w + 2) = (x :: xs).length * (w + 2) := by rw [List.length_cons, Nat.succ_mul]; omega
    rw [e] at this; exact this
theorem ShpL.map {α : Type} {z : Bool} {n w k : Nat} {as : List α} {f : α → PyData} (h : ∀ a ∈ as, Shp z n w (f a)) (hk : as.length ≤ k) : ShpL z n (k * (w + 2)) (as.map f) := by
  have := ShpL.of (xs := as.map f) (z := z) (n := n) (w := w) fun x hx => by
    obtain ⟨a, ha, rfl⟩ := List.mem_map.mp hx
    exact h a ha
  rw [List.length_map] at this
  exact ⟨this.ok, this.dp, Nat.le_trans this.wt (Nat.mul_le_mul_right _ hk)⟩
theorem ShpL.mono {z : Bool} {n m w v : Nat} {d : List PyData} (h : ShpL z n w d) (hn : n ≤ m) (hw : w ≤ v) : ShpL z m v d := ⟨h.ok, Nat.le_trans h.dp hn, Nat.le_trans h.wt hw⟩
theorem okdL_app {z : Bool} : ∀ (xs ys : List PyData), okdL z (xs ++ ys) = (okdL z xs && okdL z ys)
  | [], ys => by simp [okdL]
  | x :: xs, ys => by simp [okdL, okdL_app xs ys, Bool.and_assoc]
theorem depthAll_app : ∀ (xs ys : List PyData), PyData.depthAll (xs ++ ys) = max (PyData.depthAll xs) (PyData.depthAll ys)
  | [], ys => by simp [PyData.depthAll]
  | x :: xs, ys => by simp only [List.cons_append, PyData.depthAll, depthAll_app xs ys]; omega
theorem wgtL_app : ∀ (xs ys : List PyData), wgtL (xs ++ ys) = wgtL xs + wgtL ys
  | [], ys => by simp [wgtL]
  | x :: xs, ys => by simp [wgtL, wgtL_app xs ys]; omega
theorem ShpL.app {z : Bool} {n w v : Nat} {xs ys : List PyData} (h : ShpL z n w xs) (t : ShpL z n v ys) : ShpL z n (w + v) (xs ++ ys) :=
  ⟨by rw [okdL_app, h.ok, t.ok]; rfl, by rw [depthAll_app]; have := h.dp; have := t.dp; omega, by rw [wgtL_app]; have := h.wt; have := t.wt; omega⟩
theorem Shp.list {z : Bool} {n w : Nat} {xs : List PyData} (h : ShpL z n w xs) : Shp z (n + 1) (w + 4) (.list xs) :=
  ⟨by simp only [okd]; exact h.ok, by simp only [PyData.depth]; have := h.dp; omega, by simp only [wgt]; have := h.wt; omega⟩
theorem Shp.tuple {z : Bool} {n w : Nat} {xs : List PyData} (h : ShpL z n w xs) : Shp z (n + 1) (w + 4) (.tuple xs) :=
  ⟨by simp only [okd]; exact h.ok, by simp only [PyData.depth]; have := h.dp; omega, by simp only [wgt]; have := h.wt; omega⟩
theorem Shp.none {z : Bool} {n : Nat} : Shp z n 8 .none := ⟨by simp [okd], by simp [PyData.depth], by simp [wgt]⟩
theorem Shp.bool {z : Bool} {n : Nat} {b : Bool} : Shp z n 8 (.bool b) := ⟨by simp [okd], by simp [PyData.depth], by simp [wgt]⟩
theorem Shp.intB {z : Bool} {n k : Nat} {i : Int} (h : i.natAbs.log2 ≤ k) (hk : k < 1800) : Shp z n (k + 9) (.int i) := ⟨by simp [okd]; split <;> omega, by simp [PyData.depth], by simp [wgt]; omega⟩
theorem log_le {i : Int} {k : Nat} (h0 : -(2 ^ k) < i) (h1 : i < 2 ^ k) : i.natAbs.log2 ≤ k := by
  by_cases z : i = 0
  · subst z; simp
  · have e : ((2 ^ k : Nat) : Int) = 2 ^ k := by simp
    have : i.natAbs < 2 ^ k := by omega
    have := (Nat.log2_lt (by omega)).mpr this
    omega
theorem Shp.int64 {z : Bool} {n : Nat} {i : Int} (h0 : -(2 ^ 64) < i) (h1 : i < 2 ^ 64) : Shp z n 73 (.int i) := Shp.intB (log_le h0 h1) (by decide)
theorem Shp.str {z : Bool} {n w : Nat} {x : Str} (h : PyData.strOk x = true) (hw : (PyData.shown (.str x)).length ≤ w) : Shp z n w (.str x) := ⟨by simp [okd, h], by simp [PyData.depth], by simp only [wgt]; exact hw⟩
theorem Shp.up {n w : Nat} {d : PyData} (h : Shp false n w d) : Shp true n w d := by
  have a : ∀ xs : List PyData, (∀ x ∈ xs, okd false x = true → okd true x = true) → okdL false xs = true → okdL true xs = true := by
    intro xs
    induction xs with
    | nil => intros; simp [okdL]
    | cons x xs ih =>
      intro h k
      simp only [okdL, Bool.and_eq_true] at k ⊢
      exact ⟨h x (List.mem_cons_self ..) k.1, ih (fun y hy => h y (List.mem_cons_of_mem _ hy)) k.2⟩
  refine ⟨?_, h.dp, h.wt⟩
  have := h.ok
  clear h
  revert this
  exact PyData.rec (motive_1 := fun d => okd false d = true → okd true d = true) (motive_2 := fun xs => okdL false xs = true → okdL true xs = true) (motive_3 := fun _ => True) (motive_4 := fun _ => True)
    (by simp [okd]) (by simp [okd]) (fun i h => by simp [okd] at h ⊢; omega) (by simp [okd]) (fun xs ih h => by simp only [okd] at h ⊢; exact ih h) (fun xs ih h => by simp only [okd] at h ⊢; exact ih h) (fun kvs _ h => by simp [okd] at h)
    (by simp [okdL]) (fun x xs h1 h2 h => by simp only [okdL, Bool.and_eq_true] at h ⊢; exact ⟨h1 h.1, h2 h.2⟩) trivial (fun _ _ _ _ => trivial) (fun _ _ _ _ => trivial) d

theorem okd_lay {z : Bool} (hz : z = false) (d : PyData) : okd z d = true → d.canLay0 = true := by
  subst hz
  exact PyData.rec (motive_1 := fun d => okd false d = true → d.canLay0 = true) (motive_2 := fun xs => okdL false xs = true → PyData.canLayAll0 xs = true) (motive_3 := fun _ => True) (motive_4 := fun _ => True)
    (by simp [PyData.canLay0]) (by simp [PyData.canLay0]) (by simp [PyData.canLay0]) (by simp [okd, PyData.canLay0]) (fun xs ih h => by simp only [okd] at h; simp only [PyData.canLay0]; exact ih h) (fun xs ih h => by simp only [okd] at h; simp only [PyData.canLay0]; exact ih h) (fun kvs _ h => by simp [okd] at h)
    (by simp [PyData.canLayAll0]) (fun x xs h1 h2 h => by simp only [okdL, Bool.and_eq_true] at h; simp only [PyData.canLayAll0, Bool.and_eq_true]; exact ⟨h1 h.1, h2 h.2⟩) trivial (fun _ _ _ _ => trivial) (fun _ _ _ _ => trivial) d
theorem okd_show {z : Bool} (d : PyData) : okd z d = true → d.showable = true := by
  exact PyData.rec (motive_1 := fun d => okd z d = true → d.showable = true) (motive_2 := fun xs => okdL z xs = true → PyData.showableAll xs = true) (motive_3 := fun _ => True) (motive_4 := fun _ => True)
    (by simp [PyData.showable]) (by simp [PyData.showable]) (fun i h => by simp only [okd, decide_eq_true_eq] at h; simp only [PyData.showable, decide_eq_true_eq]; split at h <;> omega) (by simp [PyData.showable]) (fun xs ih h => by simp only [okd] at h; simp only [PyData.showable]; exact ih h) (fun xs ih h => by simp only [okd] at h; simp only [PyData.showable]; exact ih h)
    (fun kvs _ h => by
      simp only [okd, Bool.and_eq_true] at h
      have : kvs = [] := by simpa using h.2
      subst this
      simp [PyData.showable, PyData.showableKv])
    (by simp [PyData.showableAll]) (fun x xs h1 h2 h => by simp only [okdL, Bool.and_eq_true] at h; simp only [PyData.showableAll, Bool.and_eq_true]; exact ⟨h1 h.1, h2 h.2⟩) trivial (fun _ _ _ _ => trivial) (fun _ _ _ _ => trivial) d
def lens (xs : List PyData) : Nat := (xs.map fun x => x.shown.length + 2).sum
theorem piled_lens : ∀ xs : List PyData, piled (xs.map PyData.shown) = lens xs
  | [] => by simp [piled, lens]
  | x :: xs => by
    have := piled_lens xs
    simp only [List.map_cons, piled, lens, List.sum_cons] at *
    omega
theorem textFrom_lens : ∀ (xs : List PyData) (k : Nat) (acc : Str), (textFrom k acc (xs.map PyData.shown)).length ≤ acc.length + lens xs
  | [], k, acc => by simp [textFrom, lens]
  | x :: r, k, acc => by
    have ih := textFrom_lens r (k + 1) (acc ++ (if k > 0 then ", " else "" : String) ++ x.shown)
    have e : (acc ++ (if k > 0 then ", " else "" : String) ++ x.shown).length ≤ acc.length + 2 + x.shown.length := by
      rw [strLen_append, strLen_append]
      split
      · have : ((", " : String) : Str).length = 2 := rfl
        omega
      · have : (("" : String) : Str).length = 0 := rfl
        omega
    show (textFrom (k + 1) _ (r.map PyData.shown)).length ≤ _
    simp only [lens, List.map_cons, List.sum_cons] at ih ⊢
    omega
theorem okd_len {z : Bool} (d : PyData) : okd z d = true → d.shown.length ≤ wgt d := by
  refine PyData.rec (motive_1 := fun d => okd z d = true → d.shown.length ≤ wgt d) (motive_2 := fun xs => okdL z xs = true → lens xs ≤ wgtL xs) (motive_3 := fun _ => True) (motive_4 := fun _ => True)
    ?_ ?_ ?_ ?_ ?_ ?_ ?_ ?_ ?_ trivial (fun _ _ _ _ => trivial) (fun _ _ _ _ => trivial) d
  · intro _; simp only [PyData.shown, wgt]; decide
  · intro b _; cases b <;> (simp only [PyData.shown, wgt]; decide)
  · intro i h
    have := int_text_length_le (show 0 < i.natAbs.log2 + 1 by omega) (show i.natAbs.log2 < i.natAbs.log2 + 1 by omega)
    simp only [PyData.shown, wgt]
    show (Str.ofString (toString i)).length ≤ _
    rw [PySem.ofString_length]
    omega
  · intro x _; simp only [wgt]; exact Nat.le_refl _
  · intro xs ih h
    have ih := ih (by simpa only [okd] using h)
    simp only [PyData.shown, shownAll_map, wgt]
    unfold listText
    rw [strLen_append]
    have q := textFrom_lens xs 0 "["
    have e1 : (("[" : String) : Str).length = 1 := rfl
    have e2 : (("]" : String) : Str).length = 1 := rfl
    omega
  · intro xs ih h
    have ih := ih (by simpa only [okd] using h)
    simp only [PyData.shown, shownAll_map, wgt]
    unfold tupleText
    rw [strLen_append, strLen_append]
    have e1 : (("(" : String) : Str).length = 1 := rfl
    have e2 : ((if (xs.map PyData.shown).length == 1 then ",)" else ")" : String) : Str).length ≤ 2 := by split <;> decide
    have j : (Str.join ", " (xs.map PyData.shown)).length ≤ piled (xs.map PyData.shown) := by
      by_cases z : xs.map PyData.shown = []
      · rw [z]; decide
      · have := join_length_add _ z; omega
    rw [piled_lens] at j
    omega
  · intro kvs _ h
    simp only [okd, Bool.and_eq_true] at h
    have : kvs = [] := by simpa using h.2
    subst this
    simp only [PyData.shown, wgt]
    decide
  · intro _; simp [lens, wgtL]
  · intro x xs h1 h2 h
    simp only [okdL, Bool.and_eq_true] at h
    have h1 := h1 h.1
    have h2 := h2 h.2
    simp only [lens, List.map_cons, List.sum_cons, wgtL] at *
    omega
theorem Shp.shaped {n w : Nat} {d : PyData} (h : Shp false n w d) (hn : n ≤ 60 := by decide) : SeqAt.shaped d = true := by
  have := okd_lay rfl d h.ok
  simp only [SeqAt.shaped, this, Bool.true_and, decide_eq_true_eq]
  have := h.dp
  omega
theorem Shp.repr {z : Bool} {n w : Nat} {d : PyData} {X : Prop} (h : Shp z n w d) (k : X) (hn : n ≤ 60 := by decide) (hw : w ≤ 16000000 := by decide) : d.showable = true ∧ d.depth ≤ 60 ∧ d.shown.length ≤ 16000000 ∧ X :=
  ⟨okd_show d h.ok, Nat.le_trans h.dp hn, Nat.le_trans (okd_len d h.ok) (Nat.le_trans h.wt hw), k⟩
theorem okdL_iff {z : Bool} : ∀ {xs : List PyData}, okdL z xs = true ↔ ∀ x ∈ xs, okd z x = true
  | [] => by simp [okdL]
  | x :: xs => by simp [okdL, okdL_iff (xs := xs)]
theorem depthL_iff {n : Nat} : ∀ {xs : List PyData}, PyData.depthAll xs ≤ n ↔ ∀ x ∈ xs, x.depth ≤ n
  | [] => by simp [PyData.depthAll]
  | x :: xs => by
    simp only [PyData.depthAll, List.forall_mem_cons, ← depthL_iff (xs := xs)]
    omega
theorem wgtL_mem : ∀ {xs : List PyData} {x : PyData}, x ∈ xs → wgt x + 2 ≤ wgtL xs
  | y :: ys, x, h => by
    simp only [wgtL]
    rcases List.mem_cons.mp h with rfl | h
    · omega
    · have := wgtL_mem h; omega
theorem wgtL_take : ∀ (xs : List PyData) (n : Nat), wgtL (xs.take n) ≤ wgtL xs
  | [], n => by simp
  | x :: xs, 0 => by simp [wgtL]
  | x :: xs, n + 1 => by have := wgtL_take xs n; simp only [List.take_succ_cons, wgtL]; omega
theorem wgtL_drop : ∀ (xs : List PyData) (n : Nat), wgtL (xs.drop n) ≤ wgtL xs
  | [], n => by simp
  | x :: xs, 0 => by simp
  | x :: xs, n + 1 => by have := wgtL_drop xs n; simp only [List.drop_succ_cons, wgtL]; omega
theorem ShpL.part {z : Bool} {n w : Nat} {xs ys : List PyData} (h : ShpL z n w xs) (hm : ∀ y ∈ ys, y ∈ xs) (hw : wgtL ys ≤ wgtL xs) : ShpL z n w ys :=
  ⟨okdL_iff.mpr fun y hy => okdL_iff.mp h.ok y (hm y hy), depthL_iff.mpr fun y hy => depthL_iff.mp h.dp y (hm y hy), Nat.le_trans hw h.wt⟩
theorem ShpL.take {z : Bool} {n w : Nat} {xs : List PyData} (h : ShpL z n w xs) (k : Nat) : ShpL z n w (xs.take k) := h.part (fun _ hy => List.mem_of_mem_take hy) (wgtL_take _ _)
theorem ShpL.drop {z : Bool} {n w : Nat} {xs : List PyData} (h : ShpL z n w xs) (k : Nat) : ShpL z n w (xs.drop k) := h.part (fun _ hy => List.mem_of_mem_drop hy) (wgtL_drop _ _)
theorem ShpL.cut {z : Bool} {n w : Nat} {xs : List PyData} (h : ShpL z n w xs) (lo hi : Option Int) : ShpL z n w (DL.cutD xs lo hi) := by
  unfold DL.cutD
  exact (h.drop _).take _
theorem ShpL.mem {z : Bool} {n w : Nat} {xs : List PyData} (h : ShpL z n w xs) {x : PyData} (hx : x ∈ xs) : Shp z n w x :=
  ⟨okdL_iff.mp h.ok x hx, depthL_iff.mp h.dp x hx, by have := wgtL_mem hx; have := h.wt; omega⟩
theorem Shp.items {z : Bool} {n w : Nat} {xs : List PyData} (h : Shp z (n + 1) w (.tuple xs)) : ShpL z n w xs :=
  ⟨by have := h.ok; simpa only [okd] using this, by have := h.dp; simp only [PyData.depth] at this; omega, by have := h.wt; simp only [wgt] at this; omega⟩
theorem Shp.pos {z : Bool} {n w : Nat} {xs : List PyData} (h : Shp z n w (.tuple xs)) : ∃ m, n = m + 1 := by
  have := h.dp
  simp only [PyData.depth] at this
  exact ⟨n - 1, by omega⟩
theorem ShpL.up {n w : Nat} {xs : List PyData} (h : ShpL false n w xs) : ShpL true n w xs :=
  ⟨okdL_iff.mpr fun x hx => (Shp.up (h.mem hx)).ok, h.dp, h.wt⟩
theorem Shp.text {z : Bool} {n k : Nat} {x : Str} (h : PyData.strOk x = true) (hk : x.length ≤ k) : Shp z n (10 * k + 2) (.str x) := by
  refine Shp.str h ?_
  have h2 : ∀ c ∈ x.cps.toList, c < 16 ^ 8 := fun c hc => by
    unfold PyData.strOk at h
    rw [← Array.all_toList, List.all_eq_true] at h
    have := h c hc
    simp only [decide_eq_true_eq] at this
    omega
  have := StrLaws.reprText_len x h2
  simp only [PyData.shown]
  omega
end TW
set_option Elab.async false
set_option linter.all false
set_option maxRecDepth 100000
set_option maxHeartbeats 4000000
namespace TW
open PySem PySem.Spec PyProof.Rows L2 DL

abbrev lI (ns : List Int) : List PyData := ns.map PyData.int
abbrev tI (ns : List Int) : PyData := .tuple (lI ns)
abbrev prD (a b : List Int) : PyData := .tuple [tI a, tI b]
/-- the item at a place -/
def gi (ns : List Int) (i : Nat) : Int := ns[i]?.getD 1
theorem gi_at {ns : List Int} {i : Nat} (h : i < ns.length) : ns[i]? = some (gi ns i) := by
  unfold gi; rw [List.getElem?_eq_getElem h]; rfl
theorem gi_mem {ns : List Int} {i : Nat} (h : i < ns.length) : gi ns i ∈ ns := by
  have := gi_at h
  exact List.mem_of_getElem? this
@[simp] theorem gi_cons0 (x : Int) (xs : List Int) : gi (x :: xs) 0 = x := rfl
@[simp] theorem gi_consS (x : Int) (xs : List Int) (i : Nat) : gi (x :: xs) (i + 1) = gi xs i := by simp [gi]
@[simp] theorem gi_cons1 (x : Int) (xs : List Int) : gi (x :: xs) 1 = gi xs 0 := by simp [gi]
theorem range_gi (ns : List Int) : (List.range ns.length).map (gi ns) = ns := by
  apply List.ext_getElem?
  intro i
  by_cases h : i < ns.length
  · rw [List.getElem?_map, List.getElem?_range h, gi_at h]; rfl
  · rw [List.getElem?_eq_none (by simp; omega), List.getElem?_eq_none (by omega)]
theorem numbered_gi (ns : List Int) : numbered 0 (lI ns) = (List.range ns.length).map fun (i : Nat) => .tuple [.int (i : Int), .int (gi ns i)] := by
  rw [numbered_zip]
  apply List.ext_getElem?
  intro i
  by_cases h : i < ns.length
  · have e : ns[i]? = some ns[i] := List.getElem?_eq_getElem h
    rw [List.getElem?_map, List.getElem?_map, List.getElem?_range h, List.getElem?_zipIdx, e]
    have := gi_at h
    rw [e] at this
    simp [Option.some.inj this]
  · rw [List.getElem?_eq_none (by simp; omega), List.getElem?_eq_none (by simp; omega)]
theorem gi_ext {as bs : List Int} (hl : as.length = bs.length) (h : ∀ i, i < as.length → gi as i = gi bs i) : as = bs := by
  rw [← range_gi as, ← range_gi bs, ← hl]
  exact List.map_congr_left fun i hi => h i (List.mem_range.mp hi)
theorem gi_map {as : List Int} {f : Int → Int} {i : Nat} (h : i < as.length) : gi (as.map f) i = f (gi as i) := by
  have := gi_at (ns := as.map f) (i := i) (by simpa using h)
  rw [List.getElem?_map, gi_at h] at this
  exact (Option.some.inj this).symm
theorem gi_range {n i : Nat} {f : Nat → Int} (h : i < n) : gi ((List.range n).map f) i = f i := by
  have := gi_at (ns := (List.range n).map f) (i := i) (by simpa using h)
  rw [List.getElem?_map, List.getElem?_range h] at this
  exact (Option.some.inj this).symm
theorem fm_map {α β : Type} (p : α → Bool) (f : α → β) (as : List α) : as.filterMap (fun a => if p a = true then some (f a) else none) = (as.filter p).map f := by
  induction as with
  | nil => rfl
  | cons a as ih => by_cases h : p a = true <;> simp [h, ih]
theorem shp_ints {z : Bool} {k L : Nat} {ns : List Int} (hl : ns.length ≤ L) (h : ∀ x ∈ ns, x.natAbs.log2 ≤ k) (hk : k < 1800 := by decide) : ShpL z 0 (L * (k + 9 + 2)) (lI ns) := ShpL.map (fun a ha => Shp.intB (h a ha) hk) hl
theorem shaped_nil : SeqAt.shaped (.list []) = true := by decide
theorem eqvAll_ints : ∀ (as bs : List Int), PyData.eqvAll (lI as) (lI bs) = decide (as = bs)
  | [], [] => by simp [PyData.eqvAll]
  | [], _ :: _ => by simp [PyData.eqvAll]
  | _ :: _, [] => by simp [PyData.eqvAll]
  | a :: as, b :: bs => by
    have := eqvAll_ints as bs
    simp only [lI, List.map_cons, PyData.eqvAll, PyData.eqv] at this ⊢
    rw [this]
    by_cases h : a = b <;> simp [h]
theorem nums_succ (lo : Int) (n : Nat) : nums lo (n + 1) = .int lo :: nums (lo + 1) n := by
  rw [nums_map, nums_map, List.range_succ_eq_map, List.map_cons, List.map_map]
  congr 1
  · simp
  · apply List.map_congr_left; intro i _; simp; omega
theorem for_cntZ {g : DTG} {b : DTS} {δ : DS} {E : DEnds} {u : Stop E} (lo : Int) (n : Nat) (P : Nat → DS → Prop) (Q : DS → Prop) (Z : PyData → DS → Prop) (h : P 0 δ) (h0 : ∀ δ, P n δ → E.nx δ) (hq : ∀ δ, Q δ → E.nx δ) (hz : ∀ x δ, Z x δ → E.rt x δ)
    (hs : ∀ i δ, i < n → P i δ → ∀ (K B : DS → Prop) (T : PyData → DS → Prop), (∀ δ', P (i + 1) δ' → K δ') → (∀ δ', Q δ' → B δ') → (∀ x δ', Z x δ' → T x δ') → g (.int (lo + (i : Int))) δ fun δ1 => b { nx := K, rt := T, bk := B, ct := K } δ1) : forC g b (nums lo n) δ E u := by
  refine for_inv (fun xs δ => ∃ i, i ≤ n ∧ xs = nums (lo + (i : Int)) (n - i) ∧ P i δ) Q Z ⟨0, by omega, by simp, h⟩ ?_ hq hz ?_
  · rintro δ ⟨i, hi, hx, hp⟩
    have : i = n := by
      have := congrArg List.length hx
      simp [nums] at this; omega
    subst this
    exact h0 δ hp
  · rintro x xs δ ⟨i, hi, hx, hp⟩ K B T hK hB hT
    have hlt : i < n := by
      have := congrArg List.length hx
      simp [nums] at this; omega
    rw [show n - i = (n - i - 1) + 1 by omega, nums_succ, List.cons.injEq] at hx
    obtain ⟨rfl, rfl⟩ := hx
    refine hs i δ hlt hp K B T (fun δ' hp' => hK δ' ⟨i + 1, by omega, ?_, hp'⟩) hB hT
    congr 1
    omega
theorem for_cnt {g : DTG} {b : DTS} {δ : DS} {E : DEnds} {u : Stop E} (lo : Int) (n : Nat) (P : Nat → DS → Prop) (h : P 0 δ) (h0 : ∀ δ, P n δ → E.nx δ)
    (hs : ∀ i δ, i < n → P i δ → ∀ (K B : DS → Prop) (T : PyData → DS → Prop), (∀ δ', P (i + 1) δ' → K δ') → g (.int (lo + (i : Int))) δ fun δ1 => b { nx := K, rt := T, bk := B, ct := K } δ1) : forC g b (nums lo n) δ E u :=
  for_cntZ lo n P (fun _ => False) (fun _ _ => False) h h0 (fun _ h => h.elim) (fun _ _ h => h.elim) fun i δ hi hp K B T hK _ _ => hs i δ hi hp K B T hK
/-- the item at a place -/
def gd (ds : List PyData) (i : Nat) : PyData := ds[i]?.getD .none
theorem gd_at {ds : List PyData} {i : Nat} (h : i < ds.length) : ds[i]? = some (gd ds i) := by
  unfold gd; rw [List.getElem?_eq_getElem h]; rfl
end TW
set_option Elab.async false
set_option linter.all false
set_option maxRecDepth 100000
set_option maxHeartbeats 4000000
namespace TW
open PySem PySem.Spec PyProof.Rows L2 DL
def optI : Option Int → PyData
  | some x => .int x
  | none => .none
@[simp] theorem optI_some (x : Int) : optI (some x) = .int x := rfl
@[simp] theorem optI_none : optI none = .none := rfl
/-- a pair and a box of one kind -/
structure PB (a b bx : List Int) : Prop where
  la : a.length = bx.length
  lb : b.length = bx.length
  l0 : 0 < bx.length
  l1 : bx.length ≤ 10
  pa : ∀ x ∈ a, Pos x
  pb : ∀ x ∈ b, Pos x
  px : ∀ x ∈ bx, Pos x
end TW
set_option Elab.async false
set_option linter.all false
set_option maxRecDepth 100000
set_option maxHeartbeats 4000000
namespace TW
open PySem PySem.Spec PyProof.Rows L2 DL
theorem PB.at {a b bx : List Int} (h : PB a b bx) {i : Nat} (hi : i < bx.length) : a[i]? = some (gi a i) ∧ b[i]? = some (gi b i) ∧ bx[i]? = some (gi bx i) ∧ Pos (gi a i) ∧ Pos (gi b i) ∧ Pos (gi bx i) :=
  have ha : i < a.length := by have := h.la; omega
  have hb : i < b.length := by have := h.lb; omega
  ⟨gi_at ha, gi_at hb, gi_at hi, h.pa _ (gi_mem ha), h.pb _ (gi_mem hb), h.px _ (gi_mem hi)⟩
end TW
set_option Elab.async false
set_option linter.all false
set_option maxRecDepth 100000
set_option maxHeartbeats 4000000
namespace TW
open PySem PySem.Spec PyProof.Rows L2 DL
abbrev sp_Ldeck : DSpM := spDeck
abbrev sp_Ldraw : DSp := spDraw
def In (m : Int) (ns : List Int) : Prop := ∀ x ∈ ns, 1 ≤ x ∧ x ≤ m
def sp_Lone : DSp := fun cs R => ∃ a b c d xs, cs = [.dk a b c, .d d] ∧ seqOf d = some xs ∧ 0 < xs.length ∧ xs.length ≤ 1000000 ∧ ∀ x ∈ xs, R x [.dk a b c, .d d]
def sp_Lsides : DSp := fun cs R => ∃ a b c n m, cs = [.dk a b c, .d (.int n), .d (.int m)] ∧ 0 ≤ n ∧ n ≤ 1000 ∧ 0 < m ∧ m < 2 ^ 64 ∧ ∀ ns : List Int, ns.length = n.toNat → In m ns → R (tI ns) [.dk a b c, .d (.int n), .d (.int m)]
def IsPlainBox (p ns : List Int) (m : Int) : Prop := ns.length = p.length ∧ ∀ i, i < p.length → ∃ k, 1 ≤ k ∧ k ≤ m ∧ gi ns i = gi p i * k
/-- two bricks of one kind -/
structure Pr (p q : List Int) : Prop where
  l : q.length = p.length
  l0 : 0 < p.length
  l1 : p.length ≤ 10
  p : ∀ x ∈ p, 1 ≤ x ∧ x < 2 ^ 60
  q : ∀ x ∈ q, 1 ≤ x ∧ x < 2 ^ 60
def vol (ns : List Int) : Int := ns.foldl (fun a b => a * b) 1
def sp_Lvolume : DSp := fun cs R => ∃ ns : List Int, cs = [.d (tI ns)] ∧ (∀ x ∈ ns, -(2 ^ 64) < x ∧ x < 2 ^ 64) ∧ R (.int (vol ns)) cs
def w_Lsides : DTS := (wRet (wFn pTupOf (wCons (wOfL (wComp (iRange1 (wCons (wVar 1) wNil)) (gN 3) tT (wOp pAddB (wC (.int 1)) (wCall [true, false] sp_Ldraw (wCons (wVar 0) (wCons (wVar 2) wNil)))) [3])) wNil)))
def w_Lone : DTS := (wRet (wOp pIx (wVar 1) (wCall [true, false] sp_Ldraw (wCons (wVar 0) (wCons (wFn pLen (wCons (wVar 1) wNil)) wNil)))))
def w_Lvolume_1 : DTS := (wSet 1 (mE (wOp pMulT (wVar 1) (wVar 2))))
def w_Lvolume_s1 : DTS := (wSeq (wFor (iSeq (wVar 0)) (gN 2) w_Lvolume_1) (wRet (wVar 1)))
@[simp ↓] theorem w_Lvolume_s1_ap (E : DEnds) (δ : DS) : w_Lvolume_s1 E δ = (wSeq (wFor (iSeq (wVar 0)) (gN 2) w_Lvolume_1) (wRet (wVar 1))) E δ := rfl
def w_Lvolume : DTS := (wSeq (wSet 1 (mE (wC (.int 1)))) w_Lvolume_s1)
theorem ln_Lsides : ∀ cs R, sp_Lsides cs R → cs.length = 3 := by
  intro cs R h
  unfold sp_Lsides at h
  repeat (obtain ⟨_, h⟩ := h)
  subst_vars; rfl
theorem ln_Lone : ∀ cs R, sp_Lone cs R → cs.length = 2 := by
  intro cs R h
  unfold sp_Lone at h
  repeat (obtain ⟨_, h⟩ := h)
  subst_vars; rfl
theorem ln_Lvolume : ∀ cs R, sp_Lvolume cs R → cs.length = 1 := by
  intro cs R h
  unfold sp_Lvolume at h
  repeat (obtain ⟨_, h⟩ := h)
  subst_vars; rfl
end TW
set_option Elab.async false
set_option linter.all false
set_option maxRecDepth 100000
set_option maxHeartbeats 4000000
namespace TW
open PySem PySem.Spec PyProof.Rows L2 DL
theorem rd_Lone : ∀ cs R, sp_Lone cs R → w_Lone (endsOf cs R) (start0 2 cs) := by
  rintro _ R ⟨a, b, c, d, xs, rfl, hd, h0, h1, hR⟩
  cases d with
  | list ds =>
    cases hd
    simp -implicitDefEqProofs -dsimp [w_Lone]
    refine ask_draw (by omega) (by omega) fun r q0 q1 => ?_
    (try simp -implicitDefEqProofs -dsimp)
    obtain ⟨z, hz, e⟩ := atI_ex (xs := xs) q0 q1
    exact onS_of e (by simp -implicitDefEqProofs -dsimp; exact hR z hz)
  | tuple ds =>
    cases hd
    simp -implicitDefEqProofs -dsimp [w_Lone]
    refine ask_draw (by omega) (by omega) fun r q0 q1 => ?_
    (try simp -implicitDefEqProofs -dsimp)
    obtain ⟨z, hz, e⟩ := atI_ex (xs := xs) q0 q1
    exact onS_of e (by simp -implicitDefEqProofs -dsimp; exact hR z hz)
  | _ => cases hd
theorem rd_Lsides : ∀ cs R, sp_Lsides cs R → w_Lsides (endsOf cs R) (start0 4 cs) := by
  rintro _ R ⟨a, b, c, n, m, rfl, h0, h1, h2, h3, hR⟩
  simp -implicitDefEqProofs -dsimp [w_Lsides]
  refine ⟨by omega, by omega, ?_⟩
  refine com_ints (fun i => 1 ≤ i ∧ i ≤ m) (fun x hx acc K hK => ?_) fun ns hl hn => ?_
  · (try simp -implicitDefEqProofs -dsimp)
    refine ask_draw h2 (by omega) fun r q0 q1 => ?_
    (try simp -implicitDefEqProofs -dsimp)
    exact hK _ ⟨by omega, by omega⟩
  · (try simp -implicitDefEqProofs -dsimp)
    exact hR ns (by simpa [nums] using hl) hn
theorem cutD_drop {α : Type} (xs : List α) (n : Nat) : cutD xs (some (n : Int)) none = xs.drop n := by
  unfold DL.cutD
  rw [HT.sIx_none, HT.sIx_nat]
  by_cases h : n ≤ xs.length
  · rw [Nat.min_eq_left h, List.take_of_length_le (by simp)]
  · rw [Nat.min_eq_right (by omega), List.drop_of_length_le (show xs.length ≤ xs.length by omega), List.drop_of_length_le (by omega)]; simp
theorem cutD_drop1 {α : Type} (xs : List α) (n : Nat) : cutD xs (some ((n : Int) + 1)) none = xs.drop (n + 1) := cutD_drop xs (n + 1)
theorem put_at {α : Type} {xs : List α} {n : Nat} {y : α} (h : n < xs.length) : xs.take n ++ (y :: xs.drop (n + 1)) = xs.set n y := by
  rw [List.set_eq_take_append_cons_drop, if_pos h]
/-- x[:i] + (d,) + x[i + 1:] -/
theorem cut_put {xs : List PyData} {n : Nat} {y : PyData} (h : n < xs.length) : cutD xs none (some (n : Int)) ++ [y] ++ cutD xs (some ((n : Int) + 1)) none = xs.set n y := by
  rw [cutD_take, cutD_drop1, List.append_assoc, List.singleton_append, put_at h]
theorem In.set {m y : Int} {ns : List Int} {n : Nat} (h : In m ns) (h0 : 1 ≤ y) (h1 : y ≤ m) : In m (ns.set n y) := fun x hx => by
  rcases List.mem_or_eq_of_mem_set hx with q | q
  · exact h x q
  · subst q; exact ⟨h0, h1⟩
theorem Pr.at {p q : List Int} (h : Pr p q) {i : Nat} (hi : i < p.length) : p[i]? = some (gi p i) ∧ q[i]? = some (gi q i) ∧ (1 ≤ gi p i ∧ gi p i < 2 ^ 60) ∧ (1 ≤ gi q i ∧ gi q i < 2 ^ 60) :=
  have hj : i < q.length := by have := h.l; omega
  ⟨gi_at hi, gi_at hj, h.p _ (gi_mem hi), h.q _ (gi_mem hj)⟩
theorem gi_set {ns : List Int} {i k : Nat} {y : Int} (hi : i < ns.length) : gi (ns.set k y) i = if i = k then y else gi ns i := by
  unfold gi
  rw [List.getElem?_set]
  by_cases h : k = i
  · subst h; simp [hi]
  · rw [if_neg h, if_neg (fun e => h e.symm)]
theorem IsPlainBox.of {p ns : List Int} {m : Int} (hl : ns.length = p.length) (h : ∀ i, i < p.length → ∃ k, 1 ≤ k ∧ k ≤ m ∧ gi ns i = gi p i * k) : IsPlainBox p ns m := ⟨hl, h⟩
theorem foldl_app {ns : List Int} {x y : Int} : (ns ++ [x]).foldl (fun a b => a * b) y = ns.foldl (fun a b => a * b) y * x := by simp
theorem rd_Lvolume : ∀ cs R, sp_Lvolume cs R → w_Lvolume (endsOf cs R) (start0 3 cs) := by
  rintro _ R ⟨ns, rfl, h, hR⟩
  simp -implicitDefEqProofs -dsimp [w_Lvolume]
  refine for_plain ns _ rfl (fun rest δ => ∃ (c2 : Cell) (pre : List Int), ns = pre ++ rest ∧ δ = [.d (tI ns), .d (.int (vol pre)), c2]) ⟨_, [], rfl, rfl⟩ ?_ ?_
  · rintro δ ⟨c2, pre, he, rfl⟩
    have : pre = ns := by rw [he]; simp
    subst this
    (try simp -implicitDefEqProofs -dsimp)
    exact hR
  · rintro x rest δ ⟨c2, pre, he, rfl⟩ K B T hK
    have := h x (by rw [he]; simp)
    simp -implicitDefEqProofs -dsimp [w_Lvolume_1]
    have e : vol pre * x = vol (pre ++ [x]) := by unfold vol; rw [foldl_app]
    rw [e]
    exact ⟨cm_r (by omega), hK _ ⟨_, pre ++ [x], by rw [he]; simp, rfl⟩⟩
theorem vol_cons (x : Int) (xs : List Int) : vol (x :: xs) = x * vol xs := by
  unfold vol
  have : ∀ (l : List Int) (y z : Int), l.foldl (fun a b => a * b) (y * z) = y * l.foldl (fun a b => a * b) z := by
    intro l
    induction l with
    | nil => intros; rfl
    | cons w l ih => intro y z; simp only [List.foldl_cons]; rw [Int.mul_assoc, ih]
  rw [List.foldl_cons, Int.one_mul, ← this xs x 1, Int.mul_one]
theorem vol_pos : ∀ {ns : List Int}, (∀ x ∈ ns, 1 ≤ x) → 1 ≤ vol ns
  | [], _ => by simp [vol]
  | x :: xs, h => by
    have a := h x (List.mem_cons_self ..)
    have b := vol_pos fun y hy => h y (List.mem_cons_of_mem _ hy)
    rw [vol_cons]
    have := Int.mul_le_mul a b (by omega) (by omega)
    omega
theorem vol_ge : ∀ {ns : List Int}, (∀ x ∈ ns, 1 ≤ x) → ∀ x ∈ ns, x ≤ vol ns
  | [], _, x, hx => by cases hx
  | y :: ys, h, x, hx => by
    have a := h y (List.mem_cons_self ..)
    have h' : ∀ z ∈ ys, 1 ≤ z := fun z hz => h z (List.mem_cons_of_mem _ hz)
    have b := vol_pos h'
    rw [vol_cons]
    rcases List.mem_cons.mp hx with rfl | hx
    · have := Int.mul_le_mul_of_nonneg_left b (show 0 ≤ x by omega)
      omega
    · have c := vol_ge h' x hx
      have := Int.mul_le_mul_of_nonneg_right a (show 0 ≤ vol ys by omega)
      omega
theorem vol_in {ns : List Int} {v : Int} (h : ∀ x ∈ ns, 1 ≤ x) (hv : vol ns ≤ v) : In v ns := fun x hx => ⟨h x hx, by have := vol_ge h x hx; omega⟩
theorem vol_ones : ∀ n : Nat, vol (List.replicate n 1) = 1
  | 0 => rfl
  | n + 1 => by rw [List.replicate_succ, vol_cons, vol_ones n]; rfl
end TW
set_option Elab.async false
set_option linter.all false
set_option maxRecDepth 100000
set_option maxHeartbeats 4000000
namespace TW
open PySem PySem.Spec PyProof.Rows L2 DL
/-- one brick divides all, or both divide all but one side, which is a sum -/
def Fill (a b bx : List Int) : Prop := (∀ i, i < bx.length → gi a i ∣ gi bx i) ∨ (∀ i, i < bx.length → gi b i ∣ gi bx i) ∨
  ∃ ax, ax < bx.length ∧ (∀ i, i < bx.length → i ≠ ax → gi a i ∣ gi bx i ∧ gi b i ∣ gi bx i) ∧ isSum (gi a ax) (gi b ax) (gi bx ax) = true
end TW
set_option Elab.async false
set_option linter.all false
set_option maxRecDepth 100000
set_option maxHeartbeats 4000000
namespace TW
open PySem PySem.Spec PyProof.Rows L2 DL
@[simp] theorem endsM_nx (i : Nat) (cs : List Cell) (R : Cell → List Cell → Prop) (δ : DS) : (endsM i cs R).nx δ = (sameIo cs δ ∧ cs.length ≤ i ∧ ∃ a xs, δ[i]? = some (.ol a xs) ∧ R (.ol a xs) (outC cs δ)) := rfl
end TW
set_option Elab.async false
set_option linter.all false
set_option maxRecDepth 100000
set_option maxHeartbeats 4000000
namespace TW
open PySem PySem.Spec PyProof.Rows L2 DL
end TW
set_option Elab.async false
set_option linter.all false
set_option maxRecDepth 100000
set_option maxHeartbeats 4000000
namespace TW
open PySem PySem.Spec PyProof.Rows L2 DL
end TW
set_option Elab.async false
set_option linter.all false
set_option maxRecDepth 100000
set_option maxHeartbeats 4000000
namespace TW
open PySem PySem.Spec PyProof.Rows L2 DL
def cellsStep (found : List (List Int)) (side : Int) : List (List Int) := found.flatMap fun cell => (List.range side.toNat).map fun (k : Nat) => cell ++ [(k : Int)]
/-- all cells of a box, in order -/
def cellsF (ns : List Int) : List (List Int) := ns.foldl cellsStep [[]]
abbrev lT (cs : List (List Int)) : List PyData := cs.map fun c => tI c
/-- no list that is made on the way is too long -/
def CellsOk (ns : List Int) : Prop := (∀ x ∈ ns, 0 ≤ x) ∧ ∀ k, k ≤ ns.length → vol (ns.take k) ≤ 1000000
def sp_Lcells : DSp := fun cs R => ∃ (d : PyData) (ns : List Int), cs = [.d d] ∧ (d = tI ns ∨ d = .list (lI ns)) ∧ ns.length ≤ 1000 ∧ CellsOk ns ∧ R (.list (lT (cellsF ns))) cs
def w_Lcells_1 : DTS := (wExtend 3 (wOfL (wComp (iRange1 (wCons (wVar 2) wNil)) (gN 5) tT (wOp pAddB (wVar 4) (wTup (wCons (wVar 5) wNil))) [5])))
def w_Lcells_s1 : DTS := (wSeq (wFor (iSeq (wOfL (wFnL pLstOf (wCons (wVar 1) wNil)))) (gN 4) w_Lcells_1) (wSet 1 (mE (wVar 3))))
@[simp ↓] theorem w_Lcells_s1_ap (E : DEnds) (δ : DS) : w_Lcells_s1 E δ = (wSeq (wFor (iSeq (wOfL (wFnL pLstOf (wCons (wVar 1) wNil)))) (gN 4) w_Lcells_1) (wSet 1 (mE (wVar 3)))) E δ := rfl
def w_Lcells_2 : DTS := (wSeq (wSet 3 (mL (wLst wNil))) w_Lcells_s1)
def w_Lcells_s2 : DTS := (wSeq (wFor (iSeq (wVar 0)) (gN 2) w_Lcells_2) (wRet (wVar 1)))
@[simp ↓] theorem w_Lcells_s2_ap (E : DEnds) (δ : DS) : w_Lcells_s2 E δ = (wSeq (wFor (iSeq (wVar 0)) (gN 2) w_Lcells_2) (wRet (wVar 1))) E δ := rfl
def w_Lcells : DTS := (wSeq (wSet 1 (mE (wOfL (wLst (wCons (wTup wNil) wNil))))) w_Lcells_s2)
theorem ln_Lcells : ∀ cs R, sp_Lcells cs R → cs.length = 1 := by
  intro cs R h
  unfold sp_Lcells at h
  repeat (obtain ⟨_, h⟩ := h)
  subst_vars; rfl
end TW
set_option Elab.async false
set_option linter.all false
set_option maxRecDepth 100000
set_option maxHeartbeats 4000000
namespace TW
open PySem PySem.Spec PyProof.Rows L2 DL
theorem step_len (found : List (List Int)) (s : Int) : (cellsStep found s).length = found.length * s.toNat := by
  unfold cellsStep
  induction found with
  | nil => simp
  | cons x xs ih => rw [List.flatMap_cons, List.length_append, ih, List.length_map, List.length_range, List.length_cons, Nat.succ_mul, Nat.add_comm]
theorem cells_app (ns : List Int) (s : Int) : cellsF (ns ++ [s]) = cellsStep (cellsF ns) s := by unfold cellsF; rw [List.foldl_append]; rfl
theorem vol_app (ns : List Int) (s : Int) : vol (ns ++ [s]) = vol ns * s := by unfold vol; rw [foldl_app]
theorem cells_len : ∀ (n : Nat) (ns : List Int), ns.length = n → (∀ x ∈ ns, 0 ≤ x) → ((cellsF ns).length : Int) = vol ns
  | 0, ns, hl, _ => by rw [List.length_eq_zero_iff.mp hl]; rfl
  | n + 1, ns, hl, h => by
    obtain ⟨ms, s, rfl⟩ : ∃ ms s, ns = ms ++ [s] := ⟨ns.dropLast, ns.getLast (by intro e; rw [e] at hl; cases hl), (List.dropLast_concat_getLast _).symm⟩
    have hs := h s (by simp)
    rw [cells_app, vol_app, step_len, Int.natCast_mul, cells_len n ms (by simpa using hl) fun x hx => h x (by simp [hx]), Int.toNat_of_nonneg hs]
theorem vol_pre {as bs : List Int} (h : ∀ x ∈ as ++ bs, 1 ≤ x) : vol as ≤ vol (as ++ bs) := by
  have e : vol (as ++ bs) = vol as * vol bs := by
    induction as with
    | nil => rw [List.nil_append]; show _ = 1 * _; omega
    | cons a as ih =>
      rw [List.cons_append, vol_cons, vol_cons, ih fun x hx => h x (by simp at hx ⊢; exact .inr hx), Int.mul_assoc]
  rw [e]
  have a1 := vol_pos (ns := as) fun x hx => h x (by simp [hx])
  have b1 := vol_pos (ns := bs) fun x hx => h x (by simp [hx])
  have := Int.mul_le_mul_of_nonneg_left b1 (show 0 ≤ vol as by omega)
  omega
theorem lT_step (cell : List Int) (s : Int) : List.map (fun k : Nat => PyData.tuple (lI cell ++ [PyData.int (k : Int)])) (List.range s.toNat) = lT ((List.range s.toNat).map fun (k : Nat) => cell ++ [(k : Int)]) := by
  simp [lT, tI, lI, Function.comp_def]
theorem rd_Lcells_2 {E : DEnds} {d0 : Cell} {s : Int} {found : List (List Int)} {c3 c4 c5 : Cell} (s0 : 0 ≤ s) (hv : found.length * s.toNat ≤ 1000000) (hl : ∀ c ∈ found, c.length ≤ 1000)
    (k : ∀ c3 c4 c5, E.nx [d0, .d (.list (lT (cellsStep found s))), .d (.int s), c3, c4, c5]) :
    w_Lcells_2 E [d0, .d (.list (lT found)), .d (.int s), c3, c4, c5] := by
  simp -implicitDefEqProofs -dsimp [w_Lcells_2]
  intro q
  refine for_plain found _ rfl (fun rest δ => ∃ (c4 c5 : Cell) (pre : List (List Int)), found = pre ++ rest ∧ δ = [d0, .d (.list (lT found)), .d (.int s), .ol q (lT (cellsStep pre s)), c4, c5]) ⟨_, _, [], rfl, rfl⟩ ?_ ?_
  · rintro δ ⟨c4, c5, pre, he, rfl⟩
    have : pre = found := by rw [he]; simp
    subst this
    (try simp -implicitDefEqProofs -dsimp)
    exact k _ _ _
  · rintro cell rest δ ⟨c4, c5, pre, he, rfl⟩ K B T hK
    have hc := hl cell (by rw [he]; simp)
    have hf : 0 < found.length := by rw [he]; simp only [List.length_append, List.length_cons]; omega
    have hs : s.toNat ≤ 1000000 := Nat.le_trans (by have := Nat.mul_le_mul_right s.toNat (show 1 ≤ found.length by omega); omega) hv
    simp -implicitDefEqProofs -dsimp [w_Lcells_1]
    refine ⟨⟨q, _, rfl⟩, by omega, by omega, ?_⟩
    rw [nums_0]
    refine com_map (List.range s.toNat) _ rfl (fun (k : Nat) => some (.tuple (lI cell ++ [.int (k : Int)]))) (fun i hi acc K hK => ?_) ?_
    · (try simp -implicitDefEqProofs -dsimp)
      exact ⟨by omega, by simpa using hK⟩
    · have e : List.filterMap (fun (k : Nat) => some (PyData.tuple (lI cell ++ [PyData.int (k : Int)]))) (List.range s.toNat) = lT ((List.range s.toNat).map fun (k : Nat) => cell ++ [(k : Int)]) := by
        rw [← lT_step]; simp
      rw [e]
      (try simp -implicitDefEqProofs -dsimp)
      have e2 : cellsStep (pre ++ [cell]) s = cellsStep pre s ++ (List.range s.toNat).map fun (k : Nat) => cell ++ [(k : Int)] := by unfold cellsStep; simp
      have e3 : lT (cellsStep pre s) ++ List.map (fun k : Nat => PyData.tuple (lI cell ++ [PyData.int (k : Int)])) (List.range s.toNat) = lT (cellsStep (pre ++ [cell]) s) := by rw [e2, lT_step]; simp only [lT, List.map_append]
      have ln := step_len pre s
      have l2 : (pre.length + 1) * s.toNat ≤ found.length * s.toNat := Nat.mul_le_mul_right _ (by rw [he]; simp only [List.length_append, List.length_cons]; omega)
      rw [Nat.succ_mul] at l2
      refine ⟨by rw [ln]; omega, ?_⟩
      simp only [lT, tI, lI, List.map_map, Function.comp_def] at e3 ⊢
      simp only [List.map_append, List.map_cons, List.map_nil] at e3 ⊢
      rw [e3]
      exact hK _ ⟨_, _, pre ++ [cell], by rw [he]; simp, rfl⟩
theorem cells_lens : ∀ (n : Nat) (ns : List Int), ns.length = n → ∀ c ∈ cellsF ns, c.length = n
  | 0, ns, hl, c, hc => by rw [List.length_eq_zero_iff.mp hl] at hc; simp [cellsF] at hc; rw [hc]; rfl
  | n + 1, ns, hl, c, hc => by
    obtain ⟨ms, s, rfl⟩ : ∃ ms s, ns = ms ++ [s] := ⟨ns.dropLast, ns.getLast (by intro e; rw [e] at hl; cases hl), (List.dropLast_concat_getLast _).symm⟩
    rw [cells_app] at hc
    unfold cellsStep at hc
    rw [List.mem_flatMap] at hc
    obtain ⟨d, hd, hc⟩ := hc
    rw [List.mem_map] at hc
    obtain ⟨k, _, rfl⟩ := hc
    rw [List.length_append, cells_lens n ms (by simpa using hl) d hd]; rfl
/-- which cells they are -/
theorem mem_cells : ∀ (n : Nat) (ns : List Int), ns.length = n → ∀ c : List Int, c ∈ cellsF ns ↔ c.length = n ∧ ∀ i, i < n → 0 ≤ gi c i ∧ gi c i < gi ns i
  | 0, ns, hl, c => by
    rw [List.length_eq_zero_iff.mp hl]
    simp [cellsF]
  | n + 1, ns, hl, c => by
    obtain ⟨ms, s, rfl⟩ : ∃ ms s, ns = ms ++ [s] := ⟨ns.dropLast, ns.getLast (by intro e; rw [e] at hl; cases hl), (List.dropLast_concat_getLast _).symm⟩
    have hm : ms.length = n := by simpa using hl
    rw [cells_app]
    unfold cellsStep
    simp only [List.mem_flatMap, List.mem_map, List.mem_range]
    have gl : ∀ {as : List Int} {x : Int} {i : Nat}, i < as.length → gi (as ++ [x]) i = gi as i := fun h => by unfold gi; rw [List.getElem?_append_left h]
    have ge : ∀ {as : List Int} {x : Int} {i : Nat}, i = as.length → gi (as ++ [x]) i = x := fun h => by subst h; unfold gi; simp
    constructor
    · rintro ⟨d, hd, k, hk, rfl⟩
      obtain ⟨h1, h2⟩ := (mem_cells n ms hm d).mp hd
      refine ⟨by simp [h1], fun i hi => ?_⟩
      by_cases q : i < n
      · rw [gl (by omega), gl (by omega)]; exact h2 i q
      · rw [ge (by omega), ge (by omega)]; omega
    · rintro ⟨h1, h2⟩
      obtain ⟨d, x, rfl⟩ : ∃ d x, c = d ++ [x] := ⟨c.dropLast, c.getLast (by intro e; rw [e] at h1; cases h1), (List.dropLast_concat_getLast _).symm⟩
      have hd : d.length = n := by simpa using h1
      have hx := h2 n (by omega)
      rw [ge (by omega), ge (by omega)] at hx
      refine ⟨d, (mem_cells n ms hm d).mpr ⟨hd, fun i hi => ?_⟩, x.toNat, by omega, by rw [Int.toNat_of_nonneg hx.1]⟩
      have := h2 i (by omega)
      rwa [gl (by omega), gl (by omega)] at this
theorem CellsOk.of {ns : List Int} (h1 : ∀ x ∈ ns, 1 ≤ x) (h2 : vol ns ≤ 1000000) : CellsOk ns := ⟨fun x hx => by have := h1 x hx; omega, fun k _ => by
  have := vol_pre (as := ns.take k) (bs := ns.drop k) fun x hx => h1 x (by rwa [List.take_append_drop] at hx)
  rw [List.take_append_drop] at this
  omega⟩
theorem rd_Lcells : ∀ cs R, sp_Lcells cs R → w_Lcells (endsOf cs R) (start0 6 cs) := by
  rintro _ R ⟨d, ns, rfl, hd, hn, ⟨h1, hv⟩, hR⟩
  have go : forC (gN 2) w_Lcells_2 (lI ns) [.d d, .d (.list (lT (cellsF []))), .em, .em, .em, .em] { nx := wRet (wVar 1) (endsOf [.d d] R), rt := (endsOf [.d d] R).rt, bk := (endsOf [.d d] R).bk, ct := (endsOf [.d d] R).ct } .mk → w_Lcells (endsOf [.d d] R) (start0 6 [.d d]) := fun go => by
    rcases hd with rfl | rfl
    · simp -implicitDefEqProofs -dsimp [w_Lcells]
      exact go
    · simp -implicitDefEqProofs -dsimp [w_Lcells]
      exact go
  refine go ?_
  refine for_plain ns _ rfl (fun rest δ => ∃ (c2 c3 c4 c5 : Cell) (pre : List Int), ns = pre ++ rest ∧ δ = [.d d, .d (.list (lT (cellsF pre))), c2, c3, c4, c5]) ⟨_, _, _, _, [], rfl, rfl⟩ ?_ ?_
  · rintro δ ⟨c2, c3, c4, c5, pre, he, rfl⟩
    have : pre = ns := by rw [he]; simp
    subst this
    (try simp -implicitDefEqProofs -dsimp)
    exact hR
  · rintro s rest δ ⟨c2, c3, c4, c5, pre, he, rfl⟩ K B T hK
    have s0 := h1 s (by rw [he]; simp)
    (try simp -implicitDefEqProofs -dsimp)
    refine rd_Lcells_2 s0 ?_ (fun c hc => ?_) fun c3 c4 c5 => ?_
    · have e := cells_len _ pre rfl fun x hx => by have := h1 x (by rw [he]; simp [hx]); omega
      have e2 : ns.take (pre.length + 1) = pre ++ [s] := by rw [he, List.take_append, List.take_of_length_le (by omega)]; simp
      have v := hv (pre.length + 1) (by rw [he]; simp)
      rw [e2, vol_app] at v
      have : (((cellsF pre).length * s.toNat : Nat) : Int) = vol pre * s := by rw [Int.natCast_mul, e, Int.toNat_of_nonneg (by omega)]
      omega
    · rw [cells_lens _ pre rfl c hc]
      have : pre.length ≤ ns.length := by rw [he]; simp
      omega
    · rw [← cells_app]
      exact hK _ ⟨_, _, _, _, pre ++ [s], by rw [he]; simp, rfl⟩
end TW
set_option Elab.async false
set_option linter.all false
set_option maxRecDepth 100000
set_option maxHeartbeats 4000000
namespace TW
open PySem PySem.Spec PyProof.Rows L2 DL
def sp_Lwith : DSp := fun cs R => ∃ (ds : List PyData) (i : Nat) (d : PyData), cs = [.d (.tuple ds), .d (.int (i : Int)), .d d] ∧ i < ds.length ∧ ds.length ≤ 100000 ∧ R (.tuple (ds.set i d)) cs
def upStep (found : List (List Int)) (side : Int) : List (List Int) := found.flatMap fun cell => (List.range side.toNat).map fun (k : Nat) => cell ++ [1 + (k : Int)]
/-- all sides up to some, in order -/
def upF (ns : List Int) : List (List Int) := ns.foldl upStep [[]]
def w_Lwith : DTS := (wRet (wOp pAddB (wOp pAddB (wSl pSl (wVar 0) wNoP (wPart (wVar 1))) (wTup (wCons (wVar 2) wNil))) (wSl pSl (wVar 0) (wPart (wOp pAddB (wVar 1) (wC (.int 1)))) wNoP)))
theorem ln_Lwith : ∀ cs R, sp_Lwith cs R → cs.length = 3 := by
  intro cs R h
  unfold sp_Lwith at h
  repeat (obtain ⟨_, h⟩ := h)
  subst_vars; rfl
end TW
set_option Elab.async false
set_option linter.all false
set_option maxRecDepth 100000
set_option maxHeartbeats 4000000
namespace TW
open PySem PySem.Spec PyProof.Rows L2 DL
theorem rd_Lwith : ∀ cs R, sp_Lwith cs R → w_Lwith (endsOf cs R) (start0 3 cs) := by
  rintro _ R ⟨ds, i, d, rfl, hi, hl, hR⟩
  have e := cut_put (y := d) hi
  rw [List.append_assoc, List.singleton_append] at e
  simp -implicitDefEqProofs -dsimp [w_Lwith, e]
  have l1 : (DL.cutD ds none (some (i : Int))).length ≤ 100000 := by rw [cutD_take]; simp; omega
  have l2 : (DL.cutD ds (some ((i : Int) + 1)) none).length ≤ 100000 := by rw [cutD_drop1]; simp; omega
  exact ⟨by omega, by omega, hR⟩
def upOne (c : List Int) : List Int := c.map fun x => 1 + x
theorem up_step : ∀ (found : List (List Int)) (s : Int), upStep (found.map upOne) s = (cellsStep found s).map upOne := by
  intro found s
  unfold upStep cellsStep
  induction found with
  | nil => rfl
  | cons x xs ih => simp only [List.map_cons, List.flatMap_cons, List.map_append, ih]; congr 1; simp [upOne, Function.comp_def]
theorem up_cells (ns : List Int) : upF ns = (cellsF ns).map upOne := by
  unfold upF cellsF
  have : ∀ (l : List Int) (f : List (List Int)), l.foldl upStep (f.map upOne) = (l.foldl cellsStep f).map upOne := by
    intro l
    induction l with
    | nil => intros; rfl
    | cons x l ih => intro f; rw [List.foldl_cons, List.foldl_cons, up_step, ih]
  exact this ns [[]]
theorem up_app (ns : List Int) (s : Int) : upF (ns ++ [s]) = upStep (upF ns) s := by unfold upF; rw [List.foldl_append]; rfl
/-- which sides they are -/
theorem mem_up {ns c : List Int} : c ∈ upF ns ↔ c.length = ns.length ∧ ∀ i, i < ns.length → 1 ≤ gi c i ∧ gi c i ≤ gi ns i := by
  rw [up_cells, List.mem_map]
  constructor
  · rintro ⟨d, hd, rfl⟩
    obtain ⟨h1, h2⟩ := (mem_cells _ ns rfl d).mp hd
    refine ⟨by simp [upOne, h1], fun i hi => ?_⟩
    have := h2 i hi
    unfold upOne
    rw [gi_map (by omega)]
    omega
  · rintro ⟨h1, h2⟩
    refine ⟨c.map fun x => x - 1, (mem_cells _ ns rfl _).mpr ⟨by simp [h1], fun i hi => ?_⟩, ?_⟩
    · have := h2 i hi
      rw [gi_map (by omega)]
      omega
    · unfold upOne
      rw [List.map_map]
      conv => rhs; rw [← List.map_id c]
      exact List.map_congr_left fun x _ => by simp; omega
end TW
set_option Elab.async false
set_option linter.all false
set_option maxRecDepth 100000
set_option maxHeartbeats 4000000
namespace TW
open PySem PySem.Spec PyProof.Rows L2 DL
def wholeB (lo hi : Int) : PyData → Bool
  | .int i => decide (lo ≤ i) && decide (i ≤ hi)
  | _ => false
def sp_is_integer : DSp := fun cs R => ∃ d lo hi, cs = [.d d, .d (.int lo), .d (.int hi)] ∧ R (.bool (wholeB lo hi d)) [.d d, .d (.int lo), .d (.int hi)]
def w_is_integer : DTS := (wRet (wAndV (wIsi "int" (wVar 0)) (wAndV (wNotV (wIsi "bool" (wVar 0))) (wChain pLe pLe (wVar 1) (wVar 0) (wVar 2)))))
theorem ln_is_integer : ∀ cs R, sp_is_integer cs R → cs.length = 3 := by
  intro cs R h
  unfold sp_is_integer at h
  repeat (obtain ⟨_, h⟩ := h)
  subst_vars; rfl
end TW
set_option Elab.async false
set_option linter.all false
set_option maxRecDepth 100000
set_option maxHeartbeats 4000000
namespace TW
open PySem PySem.Spec PyProof.Rows L2 DL
@[simp] theorem isTy_int_i (i : Int) : isTy "int" (.int i) = true := by rw [isTy, tyName]; decide
@[simp] theorem isTy_int_b (i : Bool) : isTy "int" (.bool i) = true := by rw [isTy, tyName]; decide
@[simp] theorem isTy_int_n : isTy "int" .none = false := by rw [isTy, tyName]; decide
@[simp] theorem isTy_int_s (i : Str) : isTy "int" (.str i) = false := by rw [isTy, tyName]; decide
@[simp] theorem isTy_int_l (i : List PyData) : isTy "int" (.list i) = false := by rw [isTy, tyName]; decide
@[simp] theorem isTy_int_t (i : List PyData) : isTy "int" (.tuple i) = false := by rw [isTy, tyName]; decide
@[simp] theorem isTy_int_d (i : List (PyData × PyData)) : isTy "int" (.dict i) = false := by cases i <;> (rw [isTy, tyName]; decide)
@[simp] theorem isTy_bool_i (i : Int) : isTy "bool" (.int i) = false := by rw [isTy, tyName]; decide
@[simp] theorem isTy_bool_b (i : Bool) : isTy "bool" (.bool i) = true := by rw [isTy, tyName]; decide
@[simp] theorem isTy_bool_n : isTy "bool" .none = false := by rw [isTy, tyName]; decide
@[simp] theorem isTy_bool_s (i : Str) : isTy "bool" (.str i) = false := by rw [isTy, tyName]; decide
@[simp] theorem isTy_bool_l (i : List PyData) : isTy "bool" (.list i) = false := by rw [isTy, tyName]; decide
@[simp] theorem isTy_bool_t (i : List PyData) : isTy "bool" (.tuple i) = false := by rw [isTy, tyName]; decide
@[simp] theorem isTy_bool_d (i : List (PyData × PyData)) : isTy "bool" (.dict i) = false := by cases i <;> (rw [isTy, tyName]; decide)
@[simp] theorem isTy_tuple_i (i : Int) : isTy "tuple" (.int i) = false := by rw [isTy, tyName]; decide
@[simp] theorem isTy_tuple_b (i : Bool) : isTy "tuple" (.bool i) = false := by rw [isTy, tyName]; decide
@[simp] theorem isTy_tuple_n : isTy "tuple" .none = false := by rw [isTy, tyName]; decide
@[simp] theorem isTy_tuple_s (i : Str) : isTy "tuple" (.str i) = false := by rw [isTy, tyName]; decide
@[simp] theorem isTy_tuple_l (i : List PyData) : isTy "tuple" (.list i) = false := by rw [isTy, tyName]; decide
@[simp] theorem isTy_tuple_t (i : List PyData) : isTy "tuple" (.tuple i) = true := by rw [isTy, tyName]; decide
@[simp] theorem isTy_tuple_d (i : List (PyData × PyData)) : isTy "tuple" (.dict i) = false := by cases i <;> (rw [isTy, tyName]; decide)
@[simp] theorem isTy_str_i (i : Int) : isTy "str" (.int i) = false := by rw [isTy, tyName]; decide
@[simp] theorem isTy_str_b (i : Bool) : isTy "str" (.bool i) = false := by rw [isTy, tyName]; decide
@[simp] theorem isTy_str_n : isTy "str" .none = false := by rw [isTy, tyName]; decide
@[simp] theorem isTy_str_s (i : Str) : isTy "str" (.str i) = true := by rw [isTy, tyName]; decide
@[simp] theorem isTy_str_l (i : List PyData) : isTy "str" (.list i) = false := by rw [isTy, tyName]; decide
@[simp] theorem isTy_str_t (i : List PyData) : isTy "str" (.tuple i) = false := by rw [isTy, tyName]; decide
@[simp] theorem isTy_str_d (i : List (PyData × PyData)) : isTy "str" (.dict i) = false := by cases i <;> (rw [isTy, tyName]; decide)
theorem rd_is_integer : ∀ cs R, sp_is_integer cs R → w_is_integer (endsOf cs R) (start0 3 cs) := by
  rintro _ R ⟨d, lo, hi, rfl, hR⟩
  cases d with
  | int i =>
    simp -implicitDefEqProofs -dsimp [w_is_integer]
    have hR : R (.bool (decide (lo ≤ i) && decide (i ≤ hi))) [.d (.int i), .d (.int lo), .d (.int hi)] := hR
    by_cases h : lo ≤ i
    · rw [if_pos h]
      simpa [h] using hR
    · rw [if_neg h]
      simpa [h] using hR
  | bool b => simp -implicitDefEqProofs -dsimp [w_is_integer]; exact hR
  | none => simp -implicitDefEqProofs -dsimp [w_is_integer]; exact hR
  | str z => simp -implicitDefEqProofs -dsimp [w_is_integer]; exact hR
  | list z => simp -implicitDefEqProofs -dsimp [w_is_integer]; exact hR
  | tuple z => simp -implicitDefEqProofs -dsimp [w_is_integer]; exact hR
  | dict z => simp -implicitDefEqProofs -dsimp [w_is_integer]; exact hR
end TW
set_option Elab.async false
set_option linter.all false
set_option maxRecDepth 100000
set_option maxHeartbeats 4000000
namespace TW
open PySem PySem.Spec PyProof.Rows L2 DL
end TW
set_option Elab.async false
set_option linter.all false
set_option maxRecDepth 100000
set_option maxHeartbeats 4000000
namespace TW
open PySem PySem.Spec PyProof.Rows L2 DL
theorem PB.swap {a b bx : List Int} (h : PB a b bx) : PB b a bx := ⟨h.lb, h.la, h.l0, h.l1, h.pb, h.pa, h.px⟩
section
variable {a b bx : List Int} {E : DEnds} {w : Str} {ns : List Int}
/-- where an answer is given, with whatever else stands in the slots -/
def Ans (E : DEnds) (a b bx : List Int) (w : Str) (ns : List Int) (P : Prop) : Prop := ∀ c : Bool, (c = true ↔ P) → ∀ c3 c4 c5 c6 c7, E.rt (.bool c) [.d (prD a b), .d (tI bx), .d (.tuple (.str w :: lI ns)), c3, c4, c5, c6, c7]
theorem Ans.no {P : Prop} (h : Ans E a b bx w ns P) (q : ¬ P) : ∀ c3 c4 c5 c6 c7, E.rt (.bool false) [.d (prD a b), .d (tI bx), .d (.tuple (.str w :: lI ns)), c3, c4, c5, c6, c7] := h false (by simpa using q)
theorem Ans.of {P Q : Prop} (h : Ans E a b bx w ns P) (q : Q ↔ P) : Ans E a b bx w ns Q := fun c hc => h c (hc.trans q)
theorem shaped_int (i : Int) : SeqAt.shaped (.int i) = true := by simp [SeqAt.shaped, PyData.canLay0, PyData.depth]
end
end TW
set_option Elab.async false
set_option linter.all false
set_option maxRecDepth 100000
set_option maxHeartbeats 4000000
namespace TW
open PySem PySem.Spec PyProof.Rows L2 DL
inductive Row where
  | one (k : Nat)
  | two (ax i j : Nat)
def Row.d : Row → PyData
  | .one k => .tuple [.int (k : Int)]
  | .two ax i j => .tuple [.int (ax : Int), .int (i : Int), .int (j : Int)]
abbrev ksD (ks : List (List Int)) : PyData := .tuple (lT ks)
/-- kinds of n axes -/
structure Kd (n : Nat) (ks : List (List Int)) : Prop where
  l0 : 0 < ks.length
  l1 : ks.length ≤ 4
  n0 : 0 < n
  n1 : n ≤ 4
  len : ∀ k ∈ ks, k.length = n
  side : ∀ k ∈ ks, In (10 ^ 12) k
/-- boxes made so far -/
structure Bs (n : Nat) (bs : List (List Int)) : Prop where
  len : ∀ k ∈ bs, k.length = n
  side : ∀ k ∈ bs, In (10 ^ 400) k
def bxOf (bs : List (List Int)) (i : Nat) : List Int := bs.getD i []
def putF (one other : List Int) (ax : Nat) : List Int := one.set ax (gi one ax + gi other ax)
def agreeB (one other : List Int) (ax : Nat) : Bool := (List.range one.length).all fun k => decide (k = ax) || decide (gi one k = gi other k)
def boxR (ks bs : List (List Int)) : Row → List Int
  | .one k => bxOf ks k
  | .two ax i j => putF (bxOf bs i) (bxOf bs j) ax
def rowB (kn n idx : Nat) : PyData → Bool
  | .tuple [a] => wholeB 0 ((kn : Int) - 1) a
  | .tuple [a, b, c] => wholeB 0 ((n : Int) - 1) a && wholeB 0 ((idx : Int) - 1) b && wholeB 0 ((idx : Int) - 1) c
  | _ => false
def rowOf : PyData → Row
  | .tuple [.int k] => .one k.toNat
  | .tuple [.int a, .int i, .int j] => .two a.toNat i.toNat j.toNat
  | _ => .one 0
def wordR (bs : List (List Int)) : Row → Option Str
  | .one _ => none
  | .two ax i j => if agreeB (bxOf bs i) (bxOf bs j) ax = false then some "sides" else if gi (bxOf bs i) ax + gi (bxOf bs j) ax > 10 ^ 12 then some "great" else none
def errR (kn n : Nat) (bs : List (List Int)) (v : PyData) : Option Str := if rowB kn n bs.length v = false then some "row" else wordR bs (rowOf v)
def planE (ks : List (List Int)) (n : Nat) : List (List Int) → List PyData → Option (Nat × Str)
  | _, [] => none
  | bs, v :: vs => match errR ks.length n bs v with
    | some w => some (bs.length, w)
    | none => planE ks n (bs ++ [boxR ks bs (rowOf v)]) vs
def encP : Option (Nat × Str) → PyData
  | none => .none
  | some (i, w) => .tuple [.int (i : Int), .str w]
def planA (ks : List (List Int)) (n : Nat) : PyData → PyData
  | .tuple rs => if 1 ≤ rs.length ∧ rs.length ≤ 1000 then encP (planE ks n [] rs) else .tuple [.none, .str "plan"]
  | _ => .tuple [.none, .str "plan"]
def sp_is_row : DSp := fun cs R => ∃ n ks v, ∃ idx : Nat, cs = [.d (ksD ks), .d v, .d (.int (idx : Int))] ∧ Kd n ks ∧ R (.bool (rowB ks.length n idx v)) cs
def sp_Lis_row : DSp := sp_is_row
def sp_Lput : DSp := fun cs R => ∃ p q, ∃ ax : Nat, cs = [.d (tI p), .d (tI q), .d (.int (ax : Int))] ∧ ax < p.length ∧ q.length = p.length ∧ p.length ≤ 1000 ∧ R (if agreeB p q ax = true then tI (putF p q ax) else .none) cs
def RowIn (kn n idx : Nat) : Row → Prop
  | .one k => k < kn
  | .two ax i j => ax < n ∧ i < idx ∧ j < idx
def sp_plan_error : DSp := fun cs R => ∃ n ks v, cs = [.d (ksD ks), .d v] ∧ Kd n ks ∧ R (planA ks n v) cs
def sp_Lplan_error : DSp := sp_plan_error
def sp_Lkinds : DSp := fun cs R => ∃ a b c n m s, cs = [.dk a b c, .d (.int n), .d (.int m), .d (.int s)] ∧ 1 ≤ n ∧ n ≤ 4 ∧ 0 ≤ m ∧ m ≤ 4 ∧ 1 ≤ s ∧ s ≤ 10 ^ 12 ∧ ∀ ks : List (List Int), ks.length = m.toNat → (∀ k ∈ ks, k.length = n.toNat ∧ In s k) → R (ksD ks) cs
def w_Lis_row_t1 : DTS := (wRet (wAndV (wCall [] sp_is_integer (wCons (wOp pIx (wVar 1) (wC (.int 1))) (wCons (wC (.int 0)) (wCons (wOp pSubB (wVar 2) (wC (.int 1))) wNil)))) (wCall [] sp_is_integer (wCons (wOp pIx (wVar 1) (wC (.int 2))) (wCons (wC (.int 0)) (wCons (wOp pSubB (wVar 2) (wC (.int 1))) wNil))))))
def w_Lis_row_2 : DTS := (wRet (wCall [] sp_is_integer (wCons (wOp pIx (wVar 1) (wC (.int 0))) (wCons (wC (.int 0)) (wCons (wOp pSubB (wFn pLen (wCons (wVar 0) wNil)) (wC (.int 1))) wNil)))))
def w_Lis_row_t2 : DTS := (wSeq (wIf (wNot (wB (wCall [] sp_is_integer (wCons (wOp pIx (wVar 1) (wC (.int 0))) (wCons (wC (.int 0)) (wCons (wOp pSubB (wFn pLen (wCons (wOp pIx (wVar 0) (wC (.int 0))) wNil)) (wC (.int 1))) wNil)))))) (wRet (wC (.bool false))) wNext) w_Lis_row_t1)
def w_Lis_row_t3 : DTS := (wSeq (wIf (wB (wOp pEq (wFn pLen (wCons (wVar 1) wNil)) (wC (.int 1)))) w_Lis_row_2 wNext) w_Lis_row_t2)
def w_Lis_row : DTS := (wSeq (wIf (wOr (wNot (wB (wIsi "tuple" (wVar 1)))) (wB (wOp pNotIn (wFn pLen (wCons (wVar 1) wNil)) (wOfL (wLst (wCons (wC (.int 1)) (wCons (wC (.int 3)) wNil))))))) (wRet (wC (.bool false))) wNext) w_Lis_row_t3)
def w_Lput_1 : DTS := (wIf (wAnd (wB (wOp pNe (wVar 3) (wVar 2))) (wB (wOp pNe (wOp pIx (wVar 0) (wVar 3)) (wOp pIx (wVar 1) (wVar 3))))) (wRet (wC .none)) wNext)
def w_Lput_t1 : DTS := (wRet (wOp pAddB (wOp pAddB (wSl pSl (wVar 0) wNoP (wPart (wVar 2))) (wTup (wCons (wOp pAddB (wOp pIx (wVar 0) (wVar 2)) (wOp pIx (wVar 1) (wVar 2))) wNil))) (wSl pSl (wVar 0) (wPart (wOp pAddB (wVar 2) (wC (.int 1)))) wNoP)))
def w_Lput : DTS := (wSeq (wFor (iRange1 (wCons (wFn pLen (wCons (wVar 0) wNil)) wNil)) (gN 3) w_Lput_1) w_Lput_t1)
def w_Lplan_error_1 : DTS := (wRet (wTup (wCons (wVar 3) (wCons (wC (.str "great")) wNil))))
def w_Lplan_error_2 : DTS := (wRet (wTup (wCons (wVar 3) (wCons (wC (.str "sides")) wNil))))
def w_Lplan_error_t1 : DTS := (wSeq (wIf (wB (wOp pGt (wFn pMaxS (wCons (wVar 5) wNil)) (wOp pPow (wC (.int 10)) (wC (.int 12))))) w_Lplan_error_1 wNext) (wAppend 2 (wVar 5)))
def w_Lplan_error_s1 : DTS := (wSeq (wIf (wB (wOp pIs (wVar 5) (wC .none))) w_Lplan_error_2 wNext) w_Lplan_error_t1)
@[simp ↓] theorem w_Lplan_error_s1_ap (E : DEnds) (δ : DS) : w_Lplan_error_s1 E δ = (wSeq (wIf (wB (wOp pIs (wVar 5) (wC .none))) w_Lplan_error_2 wNext) w_Lplan_error_t1) E δ := rfl
def w_Lplan_error_4 : DTS := (wRet (wTup (wCons (wVar 3) (wCons (wC (.str "row")) wNil))))
def w_Lplan_error_t2 : DTS := (wSeq (wSet 5 (mE (wIfE (wB (wOp pEq (wFn pLen (wCons (wVar 4) wNil)) (wC (.int 1)))) (wOp pIx (wVar 0) (wOp pIx (wVar 4) (wC (.int 0)))) (wCall [] sp_Lput (wCons (wOp pIx (wVar 2) (wOp pIx (wVar 4) (wC (.int 1)))) (wCons (wOp pIx (wVar 2) (wOp pIx (wVar 4) (wC (.int 2)))) (wCons (wOp pIx (wVar 4) (wC (.int 0))) wNil))))))) w_Lplan_error_s1)
def w_Lplan_error_s2 : DTS := (wSeq (wIf (wNot (wB (wCall [] sp_Lis_row (wCons (wVar 0) (wCons (wVar 4) (wCons (wVar 3) wNil)))))) w_Lplan_error_4 wNext) w_Lplan_error_t2)
@[simp ↓] theorem w_Lplan_error_s2_ap (E : DEnds) (δ : DS) : w_Lplan_error_s2 E δ = (wSeq (wIf (wNot (wB (wCall [] sp_Lis_row (wCons (wVar 0) (wCons (wVar 4) (wCons (wVar 3) wNil)))))) w_Lplan_error_4 wNext) w_Lplan_error_t2) E δ := rfl
def w_Lplan_error_6 : DTS := (wSeq (wSet 4 (mE (wOp pIx (wVar 1) (wVar 3)))) w_Lplan_error_s2)
def w_Lplan_error_s3 : DTS := (wSeq (wFor (iRange1 (wCons (wFn pLen (wCons (wVar 1) wNil)) wNil)) (gN 3) w_Lplan_error_6) (wRet (wC .none)))
@[simp ↓] theorem w_Lplan_error_s3_ap (E : DEnds) (δ : DS) : w_Lplan_error_s3 E δ = (wSeq (wFor (iRange1 (wCons (wFn pLen (wCons (wVar 1) wNil)) wNil)) (gN 3) w_Lplan_error_6) (wRet (wC .none))) E δ := rfl
def w_Lplan_error_7 : DTS := (wRet (wTup (wCons (wC .none) (wCons (wC (.str "plan")) wNil))))
def w_Lplan_error_t3 : DTS := (wSeq (wSet 2 (mL (wLst wNil))) w_Lplan_error_s3)
def w_Lplan_error : DTS := (wSeq (wIf (wOr (wNot (wB (wIsi "tuple" (wVar 1)))) (wNot (wB (wChain pLe pLe (wC (.int 1)) (wFn pLen (wCons (wVar 1) wNil)) (wC (.int 1000)))))) w_Lplan_error_7 wNext) w_Lplan_error_t3)
def w_Lkinds : DTS := (wRet (wFn pTupOf (wCons (wOfL (wComp (iRange1 (wCons (wVar 2) wNil)) (gN 4) tT (wCall [true, false, false] sp_Lsides (wCons (wVar 0) (wCons (wVar 1) (wCons (wVar 3) wNil)))) [4])) wNil)))
theorem ln_Lis_row : ∀ cs R, sp_Lis_row cs R → cs.length = 3 := by
  intro cs R h
  unfold sp_Lis_row at h
  repeat (obtain ⟨_, h⟩ := h)
  subst_vars; rfl
theorem ln_Lput : ∀ cs R, sp_Lput cs R → cs.length = 3 := by
  intro cs R h
  unfold sp_Lput at h
  repeat (obtain ⟨_, h⟩ := h)
  subst_vars; rfl
theorem ln_Lplan_error : ∀ cs R, sp_Lplan_error cs R → cs.length = 2 := by
  intro cs R h
  unfold sp_Lplan_error at h
  repeat (obtain ⟨_, h⟩ := h)
  subst_vars; rfl
theorem ln_Lkinds : ∀ cs R, sp_Lkinds cs R → cs.length = 4 := by
  intro cs R h
  unfold sp_Lkinds at h
  repeat (obtain ⟨_, h⟩ := h)
  subst_vars; rfl
end TW
set_option Elab.async false
set_option linter.all false
set_option maxRecDepth 100000
set_option maxHeartbeats 4000000
namespace TW
open PySem PySem.Spec PyProof.Rows L2 DL
theorem shp13l : SeqAt.shaped (.list [PyData.int 1, PyData.int 3]) = true := shaped_ints [1, 3]
theorem eqv_ii (i j : Int) : PyData.eqv (.int i) (.int j) = decide (i = j) := by simp [PyData.eqv]; rfl
theorem rowB_4 {kn n idx : Nat} {a b c d : PyData} {r : List PyData} : rowB kn n idx (.tuple (a :: b :: c :: d :: r)) = false := rfl
theorem rd_Lis_row : ∀ cs R, sp_Lis_row cs R → w_Lis_row (endsOf cs R) (start0 3 cs) := by
  rintro _ R ⟨n, ks, v, idx, rfl, h, hR⟩
  have l0 := h.l0
  have k0 : ks[0]? = some (bxOf ks 0) := by
    unfold bxOf; rw [List.getD_eq_getElem?_getD, List.getElem?_eq_getElem l0]; rfl
  have kl : (bxOf ks 0).length = n := h.len _ (by unfold bxOf; rw [List.getD_eq_getElem?_getD, List.getElem?_eq_getElem l0]; exact List.getElem_mem l0)
  cases v with
  | tuple rs =>
    match rs with
    | [] => simp -implicitDefEqProofs -dsimp [w_Lis_row, shaped_int, shp13l, eqv_ii]; exact hR
    | [a] =>
      simp -implicitDefEqProofs -dsimp [w_Lis_row, shaped_int, shp13l, eqv_ii, w_Lis_row_t3, w_Lis_row_2]
      refine ask_of (sp := sp_is_integer) ⟨a, _, _, rfl, ?_⟩
      (try simp -implicitDefEqProofs -dsimp)
      exact hR
    | [a, b] => simp -implicitDefEqProofs -dsimp [w_Lis_row, shaped_int, shp13l, eqv_ii]; exact hR
    | [a, b, c] =>
      simp -implicitDefEqProofs -dsimp [w_Lis_row, shaped_int, shp13l, eqv_ii, w_Lis_row_t3, w_Lis_row_t2, k0, kl]
      refine ask_of (sp := sp_is_integer) ⟨a, _, _, rfl, ?_⟩
      (try simp -implicitDefEqProofs -dsimp)
      have hR : R (.bool (wholeB 0 ((n : Int) - 1) a && wholeB 0 ((idx : Int) - 1) b && wholeB 0 ((idx : Int) - 1) c)) [.d (ksD ks), .d (.tuple [a, b, c]), .d (.int (idx : Int))] := hR
      cases ha : wholeB 0 ((n : Int) - 1) a with
      | false =>
        rw [ha] at hR
        (try simp -implicitDefEqProofs -dsimp)
        exact hR
      | true =>
        rw [ha] at hR
        simp -implicitDefEqProofs -dsimp [w_Lis_row_t1]
        refine ask_of (sp := sp_is_integer) ⟨b, _, _, rfl, ?_⟩
        (try simp -implicitDefEqProofs -dsimp)
        cases hb : wholeB 0 ((idx : Int) - 1) b with
        | false =>
          rw [hb] at hR
          (try simp -implicitDefEqProofs -dsimp)
          exact hR
        | true =>
          rw [hb] at hR
          (try simp -implicitDefEqProofs -dsimp)
          refine ask_of (sp := sp_is_integer) ⟨c, _, _, rfl, ?_⟩
          (try simp -implicitDefEqProofs -dsimp)
          exact hR
    | a :: b :: c :: d :: r =>
      have g : ((a :: b :: c :: d :: r).length : Int) ≥ 4 := by simp only [List.length_cons]; omega
      have g1 : ¬ (1 : Int) = ((a :: b :: c :: d :: r).length : Int) := by omega
      have g3 : ¬ (3 : Int) = ((a :: b :: c :: d :: r).length : Int) := by omega
      rw [rowB_4] at hR
      revert g1 g3 hR
      generalize (a :: b :: c :: d :: r) = rs
      intro hR g1 g3
      simp -implicitDefEqProofs -dsimp [w_Lis_row, shaped_int, shp13l, eqv_ii, g1, g3]
      exact hR
  | _ => simp -implicitDefEqProofs -dsimp [w_Lis_row]; exact hR
theorem Bs.at {n : Nat} {bs : List (List Int)} (h : Bs n bs) {i : Nat} (hi : i < bs.length) : bs[i]? = some (bxOf bs i) ∧ (bxOf bs i).length = n ∧ In (10 ^ 400) (bxOf bs i) := by
  have e : bxOf bs i = bs[i] := by unfold bxOf; rw [List.getD_eq_getElem?_getD, List.getElem?_eq_getElem hi]; rfl
  refine ⟨?_, ?_, ?_⟩
  · rw [e, List.getElem?_eq_getElem hi]
  · rw [e]; exact h.len _ (List.getElem_mem hi)
  · rw [e]; exact h.side _ (List.getElem_mem hi)
theorem Kd.at {n : Nat} {ks : List (List Int)} (h : Kd n ks) {i : Nat} (hi : i < ks.length) : ks[i]? = some (bxOf ks i) ∧ (bxOf ks i).length = n ∧ In (10 ^ 12) (bxOf ks i) := by
  have e : bxOf ks i = ks[i] := by unfold bxOf; rw [List.getD_eq_getElem?_getD, List.getElem?_eq_getElem hi]; rfl
  refine ⟨?_, ?_, ?_⟩
  · rw [e, List.getElem?_eq_getElem hi]
  · rw [e]; exact h.len _ (List.getElem_mem hi)
  · rw [e]; exact h.side _ (List.getElem_mem hi)
theorem agree_iff {p q : List Int} {ax : Nat} : agreeB p q ax = true ↔ ∀ k, k < p.length → k ≠ ax → gi p k = gi q k := by
  unfold agreeB
  rw [List.all_eq_true]
  constructor
  · intro h k hk hn
    have := h k (List.mem_range.mpr hk)
    simpa [hn] using this
  · intro h k hk
    by_cases e : k = ax
    · simp [e]
    · simp [h k (List.mem_range.mp hk) e]
theorem rd_Lput : ∀ cs R, sp_Lput cs R → w_Lput (endsOf cs R) (start0 4 cs) := by
  rintro _ R ⟨p, q, ax, rfl, hx, hl, l1, hR⟩
  have x1 : p[ax]? = some (gi p ax) := gi_at (by omega)
  have x2 : q[ax]? = some (gi q ax) := gi_at (by omega)
  simp -implicitDefEqProofs -dsimp [w_Lput]
  refine ⟨by omega, for_cntZ 0 p.length (fun i δ => ∃ c, δ = [.d (tI p), .d (tI q), .d (.int (ax : Int)), c] ∧ ∀ k, k < i → k ≠ ax → gi p k = gi q k) (fun _ => False) (fun x δ => ∃ c, δ = [.d (tI p), .d (tI q), .d (.int (ax : Int)), c] ∧ x = .none ∧ agreeB p q ax = false) ⟨_, rfl, fun k hk => by omega⟩ ?_ (fun _ h => h.elim) ?_ ?_⟩
  · rintro δ ⟨c, rfl, h⟩
    rw [if_pos (agree_iff.mpr fun k hk hn => h k hk hn)] at hR
    have e := cut_put (y := PyData.int (gi p ax + gi q ax)) (xs := lI p) (n := ax) (by simpa using hx)
    rw [List.append_assoc, List.singleton_append] at e
    have e3 : (lI p).set ax (.int (gi p ax + gi q ax)) = lI (putF p q ax) := by unfold lI putF; rw [List.map_set]
    rw [e3] at e
    simp -implicitDefEqProofs -dsimp [w_Lput_t1, x1, x2, e]
    have l1 : (DL.cutD (lI p) none (some (ax : Int))).length ≤ 100000 := by rw [cutD_take]; simp; omega
    have l2 : (DL.cutD (lI p) (some ((ax : Int) + 1)) none).length ≤ 100000 := by rw [cutD_drop1]; simp; omega
    exact ⟨by omega, by omega, hR⟩
  · rintro x δ ⟨c, rfl, rfl, h⟩
    rw [h, if_neg (by simp)] at hR
    exact ⟨trivial, hR⟩
  · rintro i δ hi ⟨c, rfl, h⟩ K B T hK _ hT
    have y1 : p[i]? = some (gi p i) := gi_at (by omega)
    have y2 : q[i]? = some (gi q i) := gi_at (by omega)
    simp -implicitDefEqProofs -dsimp [w_Lput_1]
    by_cases e : i = ax
    · have e2 : (i : Int) = (ax : Int) := by omega
      try simp -implicitDefEqProofs -dsimp [e2]
      exact hK _ ⟨_, rfl, fun k hk hn => by
        by_cases q : k = i
        · omega
        · exact h k (by omega) hn⟩
    · have e2 : ¬ (i : Int) = (ax : Int) := by omega
      simp -implicitDefEqProofs -dsimp [e2, y1, y2]
      by_cases g : gi p i = gi q i
      · simp -implicitDefEqProofs -dsimp [g]
        exact hK _ ⟨_, rfl, fun k hk hn => by
          by_cases q : k = i
          · rw [q]; exact g
          · exact h k (by omega) hn⟩
      · simp -implicitDefEqProofs -dsimp [g]
        refine hT _ _ ⟨_, rfl, rfl, ?_⟩
        rw [Bool.eq_false_iff]
        intro w
        exact g (agree_iff.mp w i hi e)
/-- a row that may be one -/
theorem row_of {kn n idx : Nat} {v : PyData} (h : rowB kn n idx v = true) : v = (rowOf v).d ∧ RowIn kn n idx (rowOf v) := by
  have w : ∀ {lo hi : Int} {x : PyData}, wholeB lo hi x = true → ∃ i, x = .int i ∧ lo ≤ i ∧ i ≤ hi := fun {lo hi x} h => by
    cases x with
    | int i => simp [wholeB] at h; exact ⟨i, rfl, h.1, h.2⟩
    | _ => cases h
  cases v with
  | tuple rs =>
    match rs, h with
    | [a], h =>
      obtain ⟨i, rfl, h1, h2⟩ := w h
      refine ⟨?_, ?_⟩
      · show PyData.tuple [.int i] = .tuple [.int ((i.toNat : Nat) : Int)]
        rw [Int.toNat_of_nonneg h1]
      · show i.toNat < kn
        omega
    | [a, b, c], h =>
      simp only [rowB, Bool.and_eq_true] at h
      obtain ⟨⟨ha, hb⟩, hc⟩ := h
      obtain ⟨i, rfl, h1, h2⟩ := w ha
      obtain ⟨j, rfl, h3, h4⟩ := w hb
      obtain ⟨k, rfl, h5, h6⟩ := w hc
      refine ⟨?_, ?_⟩
      · show PyData.tuple [.int i, .int j, .int k] = .tuple [.int ((i.toNat : Nat) : Int), .int ((j.toNat : Nat) : Int), .int ((k.toNat : Nat) : Int)]
        rw [Int.toNat_of_nonneg h1, Int.toNat_of_nonneg h3, Int.toNat_of_nonneg h5]
      · show i.toNat < n ∧ j.toNat < idx ∧ k.toNat < idx
        omega
  | _ => cases h
/-- boxes none of which is too great -/
structure B12 (n : Nat) (bs : List (List Int)) : Prop where
  len : ∀ k ∈ bs, k.length = n
  side : ∀ k ∈ bs, In (10 ^ 12) k
theorem B12.bs {n : Nat} {bs : List (List Int)} (h : B12 n bs) : Bs n bs := ⟨h.len, fun k hk x hx => by have := h.side k hk x hx; exact ⟨this.1, Int.le_trans this.2 (by decide)⟩⟩
theorem B12.at {n : Nat} {bs : List (List Int)} (h : B12 n bs) {i : Nat} (hi : i < bs.length) : bs[i]? = some (bxOf bs i) ∧ (bxOf bs i).length = n ∧ In (10 ^ 12) (bxOf bs i) := by
  obtain ⟨e1, e2, _⟩ := h.bs.at hi
  refine ⟨e1, e2, ?_⟩
  have e : bxOf bs i = bs[i] := by unfold bxOf; rw [List.getD_eq_getElem?_getD, List.getElem?_eq_getElem hi]; rfl
  rw [e]; exact h.side _ (List.getElem_mem hi)
theorem B12.row {n : Nat} {ks bs : List (List Int)} (hk : Kd n ks) (h : B12 n bs) {r : Row} (hr : RowIn ks.length n bs.length r) (hw : wordR bs r = none) : B12 n (bs ++ [boxR ks bs r]) ∧ (boxR ks bs r).length = n ∧ In (10 ^ 12) (boxR ks bs r) := by
  have one : (boxR ks bs r).length = n ∧ In (10 ^ 12) (boxR ks bs r) := by
    cases r with
    | one k => exact (hk.at (i := k) hr).2
    | two ax i j =>
      obtain ⟨hx, hi, hj⟩ := hr
      obtain ⟨_, l1, b1⟩ := h.at hi
      obtain ⟨_, l2, b2⟩ := h.at hj
      have hw : (if agreeB (bxOf bs i) (bxOf bs j) ax = false then some ("sides" : Str) else if gi (bxOf bs i) ax + gi (bxOf bs j) ax > 10 ^ 12 then some "great" else none) = none := hw
      split at hw
      · cases hw
      · split at hw
        · cases hw
        · rename_i g
          have c1 := b1 _ (gi_mem (show ax < (bxOf bs i).length by omega))
          have c2 := b2 _ (gi_mem (show ax < (bxOf bs j).length by omega))
          exact ⟨by show ((bxOf bs i).set ax _).length = n; rw [List.length_set]; exact l1, b1.set (by omega) (by omega)⟩
  refine ⟨⟨fun k hk => ?_, fun k hk => ?_⟩, one⟩
  · rcases List.mem_append.mp hk with q | q
    · exact h.len k q
    · rw [List.mem_singleton.mp q]; exact one.1
  · rcases List.mem_append.mp hk with q | q
    · exact h.side k q
    · rw [List.mem_singleton.mp q]; exact one.2
theorem lT_app (bs : List (List Int)) (b : List Int) : lT bs ++ [tI b] = lT (bs ++ [b]) := by unfold lT; rw [List.map_append]; rfl
theorem planE_cons {ks : List (List Int)} {n : Nat} {bs : List (List Int)} {v : PyData} {vs : List PyData} : planE ks n bs (v :: vs) = match errR ks.length n bs v with | some w => some (bs.length, w) | none => planE ks n (bs ++ [boxR ks bs (rowOf v)]) vs := rfl
theorem drop_gd {rs : List PyData} {d : Nat} (h : d < rs.length) : rs.drop d = gd rs d :: rs.drop (d + 1) := by
  rw [List.drop_eq_getElem_cons h]
  congr 1
  unfold gd; rw [List.getElem?_eq_getElem h]; rfl
theorem max_box {n : Nat} {ks bs : List (List Int)} (hk : Kd n ks) (h : B12 n bs) {r : Row} (hr : RowIn ks.length n bs.length r) : (boxR ks bs r).length = n ∧ In (2 * 10 ^ 12) (boxR ks bs r) ∧ (∀ ax i j, r = .two ax i j → agreeB (bxOf bs i) (bxOf bs j) ax = true → (wordR bs r = none ↔ In (10 ^ 12) (boxR ks bs r))) := by
  cases r with
  | one k =>
    obtain ⟨_, l1, b1⟩ := hk.at (i := k) hr
    exact ⟨l1, fun x hx => by have := b1 x hx; omega, fun _ _ _ e => by cases e⟩
  | two ax i j =>
    obtain ⟨hx, hi, hj⟩ := hr
    obtain ⟨_, l1, b1⟩ := h.at hi
    obtain ⟨_, l2, b2⟩ := h.at hj
    have c1 := b1 _ (gi_mem (show ax < (bxOf bs i).length by omega))
    have c2 := b2 _ (gi_mem (show ax < (bxOf bs j).length by omega))
    refine ⟨by show ((bxOf bs i).set ax _).length = n; rw [List.length_set]; exact l1, In.set (fun x hx => by have := b1 x hx; omega) (by omega) (by omega), fun ax' i' j' e ha => ?_⟩
    cases e
    have e1 : wordR bs (.two ax i j) = if gi (bxOf bs i) ax + gi (bxOf bs j) ax > 10 ^ 12 then some ("great" : Str) else none := by
      show (if agreeB (bxOf bs i) (bxOf bs j) ax = false then some ("sides" : Str) else if gi (bxOf bs i) ax + gi (bxOf bs j) ax > 10 ^ 12 then some "great" else none) = _
      rw [ha]; rfl
    rw [e1]
    constructor
    · intro w
      split at w
      · cases w
      · exact In.set b1 (by omega) (by omega)
    · intro w
      have g : gi ((bxOf bs i).set ax (gi (bxOf bs i) ax + gi (bxOf bs j) ax)) ax = gi (bxOf bs i) ax + gi (bxOf bs j) ax := by rw [gi_set (by omega), if_pos rfl]
      have w2 := w _ (gi_mem (ns := (bxOf bs i).set ax (gi (bxOf bs i) ax + gi (bxOf bs j) ax)) (i := ax) (by rw [List.length_set]; omega))
      rw [g] at w2
      exact if_neg (by omega)
theorem rd_Lplan_error : ∀ cs R, sp_Lplan_error cs R → w_Lplan_error (endsOf cs R) (start0 6 cs) := by
  rintro _ R ⟨n, ks, v, rfl, h, hR⟩
  cases v with
  | tuple rs =>
    by_cases hl : 1 ≤ rs.length ∧ rs.length ≤ 1000
    · have hR : R (encP (planE ks n [] rs)) [.d (ksD ks), .d (.tuple rs)] := by
        have e : planA ks n (.tuple rs) = encP (planE ks n [] rs) := if_pos hl
        rw [e] at hR; exact hR
      have h1 : (1 : Int) ≤ (rs.length : Int) := by omega
      have h2 : (rs.length : Int) ≤ 1000 := by omega
      simp -implicitDefEqProofs -dsimp [w_Lplan_error, h1, h2, w_Lplan_error_t3]
      intro a
      refine ⟨by omega, for_cntZ 0 rs.length (fun d δ => ∃ (bs : List (List Int)) (c3 c4 c5 : Cell), bs.length = d ∧ B12 n bs ∧ planE ks n [] rs = planE ks n bs (rs.drop d) ∧ δ = [.d (ksD ks), .d (.tuple rs), .ol a (lT bs), c3, c4, c5]) (fun _ => False)
        (fun x δ => x = encP (planE ks n [] rs) ∧ ∃ (bs : List (List Int)) (c3 c4 c5 : Cell), δ = [.d (ksD ks), .d (.tuple rs), .ol a (lT bs), c3, c4, c5]) ⟨[], _, _, _, rfl, ⟨by simp, by simp⟩, by simp, rfl⟩ ?_ (fun _ h => h.elim) ?_ ?_⟩
      · rintro δ ⟨bs, c3, c4, c5, _, _, e, rfl⟩
        rw [e, List.drop_length] at hR
        (try simp -implicitDefEqProofs -dsimp)
        exact hR
      · rintro x δ ⟨rfl, bs, c3, c4, c5, rfl⟩
        exact ⟨trivial, hR⟩
      · rintro i δ hlt ⟨bs, c3, c4, c5, lb, hb, e, rfl⟩ K B T hK _ hT
        rw [drop_gd hlt, planE_cons] at e
        obtain ⟨v, hv⟩ : ∃ v, gd rs i = v := ⟨_, rfl⟩
        have at1 : rs[i]? = some v := by rw [gd_at hlt, hv]
        rw [hv] at e
        simp -implicitDefEqProofs -dsimp [w_Lplan_error_6, at1]
        refine ask_of (sp := sp_Lis_row) ⟨n, ks, v, i, rfl, h, ?_⟩
        (try simp -implicitDefEqProofs -dsimp)
        unfold errR at e
        cases hrow : rowB ks.length n i v with
        | false =>
          rw [if_pos (by rw [lb]; exact hrow), lb] at e
          simp -implicitDefEqProofs -dsimp [w_Lplan_error_4]
          exact hT _ _ ⟨by rw [e]; rfl, bs, _, _, _, rfl⟩
        | true =>
          rw [if_neg (by rw [lb, hrow]; simp)] at e
          obtain ⟨ev, hin⟩ := row_of hrow
          obtain ⟨r, her⟩ : ∃ r, rowOf v = r := ⟨_, rfl⟩
          rw [her] at ev hin e
          subst ev
          clear her hv at1
          obtain ⟨lx, bx, mx⟩ := max_box h hb (r := r) (by rw [lb]; exact hin)
          have fin : ∀ c3 c4 c5, wordR bs r = none → K [.d (ksD ks), .d (.tuple rs), .ol a (lT bs ++ [tI (boxR ks bs r)]), c3, c4, c5] := fun c3 c4 c5 hw => by
            rw [lT_app]
            obtain ⟨q1, q2⟩ := hb.row h (by rw [lb]; exact hin) hw
            rw [hw] at e
            exact hK _ ⟨_, _, _, _, by simp [lb], q1, e, rfl⟩
          have bad : ∀ w c3 c4 c5, wordR bs r = some w → T (.tuple [.int (i : Int), .str w]) [.d (ksD ks), .d (.tuple rs), .ol a (lT bs), c3, c4, c5] := fun w c3 c4 c5 hw => by
            rw [hw, lb] at e
            exact hT _ _ ⟨by rw [e]; rfl, bs, _, _, _, rfl⟩
          have n1 := h.n1
          have n0 := h.n0
          cases r with
          | one k =>
            obtain ⟨ek, _, bk⟩ := h.at (i := k) hin
            simp -implicitDefEqProofs -dsimp [w_Lplan_error_t2, Row.d, w_Lplan_error_s1, ek]
            simp -implicitDefEqProofs -dsimp [w_Lplan_error_t1]
            refine ⟨by omega, fun m hm hmx => ⟨by simp [CPow], ?_⟩⟩
            have := bk m hm
            rw [if_neg (by omega)]
            exact ⟨⟨a, _, rfl⟩, by omega, fin _ _ _ rfl⟩
          | two ax i1 j1 =>
            obtain ⟨hx, hi1, hj1⟩ := hin
            obtain ⟨e1, l1, _⟩ := hb.at (i := i1) (by omega)
            obtain ⟨e2, l2, _⟩ := hb.at (i := j1) (by omega)
            simp -implicitDefEqProofs -dsimp [w_Lplan_error_t2, Row.d, e1, e2]
            refine ask_of (sp := sp_Lput) ⟨_, _, ax, rfl, by omega, by omega, by omega, ?_⟩
            cases ha : agreeB (bxOf bs i1) (bxOf bs j1) ax with
            | false =>
              simp -implicitDefEqProofs -dsimp [w_Lplan_error_s1, w_Lplan_error_2]
              refine bad "sides" _ _ _ ?_
              show (if agreeB (bxOf bs i1) (bxOf bs j1) ax = false then some ("sides" : Str) else _) = _
              rw [ha]; rfl
            | true =>
              have mx := mx ax i1 j1 rfl ha
              have gr : ∀ w, wordR bs (.two ax i1 j1) = some w → w = "great" := fun w hw => by
                have e1 : wordR bs (.two ax i1 j1) = if gi (bxOf bs i1) ax + gi (bxOf bs j1) ax > 10 ^ 12 then some ("great" : Str) else none := by
                  show (if agreeB (bxOf bs i1) (bxOf bs j1) ax = false then some ("sides" : Str) else if gi (bxOf bs i1) ax + gi (bxOf bs j1) ax > 10 ^ 12 then some "great" else none) = _
                  rw [ha]; rfl
                rw [e1] at hw
                split at hw
                · exact (Option.some.inj hw).symm
                · cases hw
              have lx : (putF (bxOf bs i1) (bxOf bs j1) ax).length = n := lx
              simp -implicitDefEqProofs -dsimp [w_Lplan_error_s1, w_Lplan_error_t1]
              refine ⟨by omega, fun m hm hmx => ⟨by simp [CPow], ?_⟩⟩
              cases hw : wordR bs (.two ax i1 j1) with
              | none =>
                have := mx.mp hw m hm
                rw [if_neg (by omega)]
                exact ⟨⟨a, _, rfl⟩, by omega, fin _ _ _ hw⟩
              | some w =>
                have := gr w hw
                subst this
                have ni : ¬ In (10 ^ 12) (boxR ks bs (.two ax i1 j1)) := fun z => by rw [mx.mpr z] at hw; cases hw
                have : 10 ^ 12 < m := by
                  by_cases z : 10 ^ 12 < m
                  · exact z
                  · exact absurd (fun x hx => ⟨(bx x hx).1, by have := hmx x hx; omega⟩) ni
                rw [if_pos (by omega)]
                simp -implicitDefEqProofs -dsimp [w_Lplan_error_1]
                exact bad _ _ _ _ hw
    · have hR : R (.tuple [.none, .str "plan"]) [.d (ksD ks), .d (.tuple rs)] := by
        have e : planA ks n (.tuple rs) = .tuple [.none, .str "plan"] := if_neg hl
        rw [e] at hR; exact hR
      simp -implicitDefEqProofs -dsimp [w_Lplan_error]
      by_cases h1 : 1 ≤ rs.length
      · have h2 : ¬ ((rs.length : Int) ≤ 1000) := by omega
        have h3 : (1 : Int) ≤ (rs.length : Int) := by omega
        have h4 : (1000 : Int) < (rs.length : Int) := by omega
        simp -implicitDefEqProofs -dsimp [h4, h3, w_Lplan_error_7]
        exact hR
      · have h3 : ¬ (1 : Int) ≤ (rs.length : Int) := by omega
        simp -implicitDefEqProofs -dsimp [h3, w_Lplan_error_7]
        exact hR
  | _ => simp -implicitDefEqProofs -dsimp [w_Lplan_error, w_Lplan_error_7]; exact hR
theorem rd_Lkinds : ∀ cs R, sp_Lkinds cs R → w_Lkinds (endsOf cs R) (start0 5 cs) := by
  rintro _ R ⟨a, b, c, n, m, s, rfl, n0, n1, m0, m1, s0, s1, hR⟩
  simp -implicitDefEqProofs -dsimp [w_Lkinds, nums_0]
  refine ⟨by omega, by omega, com_of tI (fun ns => ns.length = n.toNat ∧ In s ns) (fun x hx acc K hK => ?_) fun ks hl hp => ?_⟩
  · obtain ⟨j, _, rfl⟩ := List.mem_map.mp hx
    (try simp -implicitDefEqProofs -dsimp)
    refine ask_of (sp := sp_Lsides) ⟨a, b, c, _, _, rfl, by omega, by omega, by omega, by omega, fun ns ln hn => ?_⟩
    (try simp -implicitDefEqProofs -dsimp)
    exact hK ns ⟨ln, hn⟩
  · have e : List.map tI ks = lT ks := rfl
    simp -implicitDefEqProofs -dsimp [e]
    exact hR ks (by simpa using hl) hp
end TW
set_option Elab.async false
set_option linter.all false
set_option maxRecDepth 100000
set_option maxHeartbeats 4000000
namespace TW
open PySem PySem.Spec PyProof.Rows L2 DL
/-- one box after another -/
def boxesR (ks : List (List Int)) : List (List Int) → List Row → List (List Int)
  | bs, [] => bs
  | bs, r :: rs => boxesR ks (bs ++ [boxR ks bs r]) rs
def RowGood (kn n : Nat) (bs : List (List Int)) (r : Row) : Prop := RowIn kn n bs.length r ∧ ∀ ax i j, r = .two ax i j → agreeB (bxOf bs i) (bxOf bs j) ax = true
def ValidR (ks : List (List Int)) (n : Nat) : List (List Int) → List Row → Prop
  | _, [] => True
  | bs, r :: rs => RowGood ks.length n bs r ∧ ValidR ks n (bs ++ [boxR ks bs r]) rs
abbrev rowsD (rs : List Row) : PyData := .tuple (rs.map Row.d)
end TW
set_option Elab.async false
set_option linter.all false
set_option maxRecDepth 100000
set_option maxHeartbeats 4000000
namespace TW
open PySem PySem.Spec PyProof.Rows L2 DL
theorem boxesR_app (ks : List (List Int)) : ∀ (xs ys : List Row) (bs : List (List Int)), boxesR ks bs (xs ++ ys) = boxesR ks (boxesR ks bs xs) ys
  | [], _, _ => rfl
  | x :: xs, ys, bs => boxesR_app ks xs ys _
theorem valid_app (ks : List (List Int)) (n : Nat) : ∀ (xs ys : List Row) (bs : List (List Int)), ValidR ks n bs (xs ++ ys) ↔ ValidR ks n bs xs ∧ ValidR ks n (boxesR ks bs xs) ys
  | [], _, _ => ⟨fun h => ⟨trivial, h⟩, fun h => h.2⟩
  | x :: xs, ys, bs => by
    have := valid_app ks n xs ys (bs ++ [boxR ks bs x])
    show (RowGood ks.length n bs x ∧ ValidR ks n _ (xs ++ ys)) ↔ (RowGood ks.length n bs x ∧ ValidR ks n _ xs) ∧ ValidR ks n (boxesR ks (bs ++ [boxR ks bs x]) xs) ys
    rw [this, and_assoc]
theorem boxesR_ext (ks : List (List Int)) : ∀ (xs : List Row) (bs : List (List Int)), ∃ t, boxesR ks bs xs = bs ++ t ∧ t.length = xs.length
  | [], bs => ⟨[], by simp [boxesR], rfl⟩
  | x :: xs, bs => by
    obtain ⟨t, e, l⟩ := boxesR_ext ks xs (bs ++ [boxR ks bs x])
    exact ⟨boxR ks bs x :: t, by show boxesR ks (bs ++ [boxR ks bs x]) xs = _; rw [e]; simp, by simp [l]⟩
theorem boxesR_len (ks : List (List Int)) (xs : List Row) (bs : List (List Int)) : (boxesR ks bs xs).length = bs.length + xs.length := by
  obtain ⟨t, e, l⟩ := boxesR_ext ks xs bs
  rw [e, List.length_append, l]
theorem valid_take {ks : List (List Int)} {n : Nat} {rs : List Row} (h : ValidR ks n [] rs) (m : Nat) : ValidR ks n [] (rs.take m) := by
  have := (valid_app ks n (rs.take m) (rs.drop m) []).mp (by rw [List.take_append_drop]; exact h)
  exact this.1
/-- boxes with sides up to a bound -/
structure Bm (n : Nat) (m : Int) (bs : List (List Int)) : Prop where
  ok : ∀ b ∈ bs, b.length = n ∧ In m b
theorem Bm.at {n : Nat} {m : Int} {bs : List (List Int)} (h : Bm n m bs) {i : Nat} (hi : i < bs.length) : bs[i]? = some (bxOf bs i) ∧ (bxOf bs i).length = n ∧ In m (bxOf bs i) := by
  have e : bxOf bs i = bs[i] := by unfold bxOf; rw [List.getD_eq_getElem?_getD, List.getElem?_eq_getElem hi]; rfl
  exact ⟨by rw [e, List.getElem?_eq_getElem hi], by rw [e]; exact h.ok _ (List.getElem_mem hi)⟩
theorem Bm.snoc {n : Nat} {m : Int} {bs : List (List Int)} (h : Bm n m bs) {b : List Int} (l : b.length = n) (i : In m b) : Bm n m (bs ++ [b]) := ⟨fun x hx => by
  rcases List.mem_append.mp hx with q | q
  · exact h.ok x q
  · rw [List.mem_singleton.mp q]; exact ⟨l, i⟩⟩
theorem In.small {m : Int} {p : List Int} (h : In m p) (hm : m ≤ 10 ^ 12) : ∀ x ∈ p, -(2 ^ 64) < x ∧ x < 2 ^ 64 := fun x hx => by have := h x hx; omega
end TW
set_option Elab.async false
set_option linter.all false
set_option maxRecDepth 100000
set_option maxHeartbeats 4000000
namespace TW
open PySem PySem.Spec PyProof.Rows L2 DL

def cellsR : List Int → List (List Int)
  | [] => [[]]
  | s :: ss => (List.range s.toNat).flatMap fun k => (cellsR ss).map (((k : Nat) : Int) :: ·)
theorem cells_fold : ∀ (ss : List Int) (L : List (List Int)), ss.foldl cellsStep L = L.flatMap fun c => (cellsR ss).map (c ++ ·)
  | [], L => by
    show L = L.flatMap fun c => [c ++ []]
    induction L with
    | nil => rfl
    | cons x L ih => rw [List.flatMap_cons, ← ih, List.append_nil]; rfl
  | s :: ss, L => by
    rw [List.foldl_cons, cells_fold ss]
    unfold cellsStep
    rw [List.flatMap_assoc]
    congr 1
    funext c
    rw [List.flatMap_map, cellsR, List.map_flatMap]
    congr 1
    funext k
    rw [List.map_map]
    congr 1
    funext d
    simp
theorem cells_eq (ss : List Int) : cellsF ss = cellsR ss := by
  unfold cellsF
  rw [cells_fold]
  simp
/-- the order of cells -/
def lx : List Int → List Int → Prop
  | x :: xs, y :: ys => x < y ∨ (x = y ∧ lx xs ys)
  | _, _ => False
theorem cells_sorted : ∀ ss : List Int, (cellsR ss).Pairwise lx
  | [] => by simp [cellsR]
  | s :: ss => by
    rw [cellsR, List.pairwise_flatMap]
    refine ⟨fun k _ => ?_, ?_⟩
    · rw [List.pairwise_map]
      exact (cells_sorted ss).imp fun {a b} h => .inr ⟨rfl, h⟩
    · refine List.pairwise_lt_range.imp fun {k l} h x hx y hy => ?_
      obtain ⟨x, _, rfl⟩ := List.mem_map.mp hx
      obtain ⟨y, _, rfl⟩ := List.mem_map.mp hy
      exact .inl (by omega)
theorem lx_ge : ∀ {x y : List Int}, lx x y → x.length = y.length → (∀ i, i < x.length → gi y i ≤ gi x i) → False
  | [], _, h, _, _ => by simp [lx] at h
  | _ :: _, [], h, _, _ => by simp [lx] at h
  | x :: xs, y :: ys, h, hl, hg => by
    have h0 : y ≤ x := hg 0 (by simp)
    rcases h with h | ⟨rfl, h⟩
    · omega
    · exact lx_ge h (by simpa using hl) fun i hi => hg (i + 1) (by simp; omega)
theorem gi_extL : ∀ {x y : List Int}, x.length = y.length → (∀ i, i < x.length → gi x i = gi y i) → x = y
  | [], [], _, _ => rfl
  | [], _ :: _, h, _ => by simp at h
  | _ :: _, [], h, _ => by simp at h
  | x :: xs, y :: ys, hl, h => by
    have h0 : x = y := h 0 (by simp)
    have := gi_extL (x := xs) (y := ys) (by simpa using hl) fun i hi => h (i + 1) (by simp; omega)
    rw [h0, this]
theorem cells_nodup (ss : List Int) : (cellsF ss).Nodup := by
  rw [cells_eq]
  refine (cells_sorted ss).imp fun {a b} h e => ?_
  subst e
  exact lx_ge h rfl fun i _ => Int.le_refl _
def movF (x c : List Int) : List Int := List.zipWith (· + ·) x c
def covF (b c : List Int) : List (List Int) := (cellsF b).map fun x => movF x c
theorem gi_mov {x c : List Int} {i : Nat} (h : i < x.length) (h' : i < c.length) : gi (movF x c) i = gi x i + gi c i := by
  unfold gi movF
  rw [List.getElem?_zipWith, List.getElem?_eq_getElem h, List.getElem?_eq_getElem h']
  rfl
theorem mov_len {x c : List Int} (h : x.length = c.length) : (movF x c).length = c.length := by unfold movF; simp [h]
theorem mem_cov {b c d : List Int} (h : c.length = b.length) : d ∈ covF b c ↔ d.length = b.length ∧ ∀ i, i < b.length → gi c i ≤ gi d i ∧ gi d i < gi c i + gi b i := by
  unfold covF
  rw [List.mem_map]
  constructor
  · rintro ⟨x, hx, rfl⟩
    obtain ⟨h1, h2⟩ := (mem_cells b.length b rfl x).mp hx
    refine ⟨by rw [mov_len (by omega)]; exact h, fun i hi => ?_⟩
    have := h2 i hi
    rw [gi_mov (by omega) (by omega)]
    omega
  · rintro ⟨h1, h2⟩
    refine ⟨List.zipWith (· - ·) d c, (mem_cells b.length b rfl _).mpr ⟨by simp; omega, fun i hi => ?_⟩, ?_⟩
    · have := h2 i hi
      have e : gi (List.zipWith (· - ·) d c) i = gi d i - gi c i := by
        unfold gi
        rw [List.getElem?_zipWith, List.getElem?_eq_getElem (show i < d.length by omega), List.getElem?_eq_getElem (show i < c.length by omega)]
        rfl
      omega
    · refine gi_extL (by rw [mov_len (by simp; omega)]; omega) fun i hi => ?_
      rw [mov_len (by simp; omega)] at hi
      rw [gi_mov (by simp; omega) hi]
      have e : gi (List.zipWith (· - ·) d c) i = gi d i - gi c i := by
        unfold gi
        rw [List.getElem?_zipWith, List.getElem?_eq_getElem (show i < d.length by omega), List.getElem?_eq_getElem (show i < c.length by omega)]
        rfl
      omega
/-- a brick lies in a box -/
def Fits (b bx c : List Int) : Prop := c.length = bx.length ∧ ∀ i, i < bx.length → 0 ≤ gi c i ∧ gi c i + gi b i ≤ gi bx i
abbrev BrL : Type := List Int × List Int
structure LayW (ks : List (List Int)) (bx : List Int) (known : List (List Int)) (bs : List BrL) : Prop where
  fit : ∀ x ∈ bs, x.1 ∈ ks ∧ Fits x.1 bx x.2
  dis : bs.Pairwise fun x y => ∀ d, d ∈ covF x.1 x.2 → d ∉ covF y.1 y.2
  new : ∀ x ∈ bs, ∀ d ∈ covF x.1 x.2, d ∉ known
  all : ∀ d ∈ cellsF bx, d ∈ known ∨ ∃ x ∈ bs, d ∈ covF x.1 x.2
/-- kinds for a box -/
def Kin (ks : List (List Int)) (bx : List Int) : Prop := ∀ b ∈ ks, b.length = bx.length ∧ ∀ x ∈ b, 1 ≤ x
theorem fits_in {b bx c d : List Int} (hl : b.length = bx.length) (h : Fits b bx c) (hd : d ∈ covF b c) : d ∈ cellsF bx := by
  obtain ⟨h1, h2⟩ := (mem_cov (by have := h.1; omega)).mp hd
  exact (mem_cells bx.length bx rfl d).mpr ⟨by omega, fun i hi => by have := h2 i (by omega); have := h.2 i hi; omega⟩
theorem corner_in {b c : List Int} (hc : c.length = b.length) (h : ∀ x ∈ b, 1 ≤ x) : c ∈ covF b c := (mem_cov hc).mpr ⟨hc, fun i hi => by
  have := h _ (gi_mem hi)
  omega⟩
def sm (l : List Int) : Int := l.foldr (· + ·) 0
theorem floor_bd (x : Int) {b : Int} (hb : 1 ≤ b) : x / b * b ≤ x ∧ x < x / b * b + b := by
  have h1 := Int.mul_ediv_add_emod x b
  rw [Int.mul_comm] at h1
  have h2 := Int.emod_nonneg x (show b ≠ 0 by omega)
  have h3 := Int.emod_lt_of_pos x (show 0 < b by omega)
  omega
theorem floor_eq {x c b : Int} (hb : 1 ≤ b) (h0 : c / b * b = c) (h1 : c ≤ x) (h2 : x < c + b) : x / b * b = c := by
  have e : x / b = c / b := by
    have : x = (x - c) + b * (c / b) := by rw [Int.mul_comm]; omega
    rw [this, Int.add_mul_ediv_left _ _ (show b ≠ 0 by omega), Int.ediv_eq_zero_of_lt (by omega) (by omega)]
    omega
  rw [e, h0]
section
variable (p q : List Int) (ax : Nat) (z : Int)
def lowB (d : List Int) : Prop := gi d ax < z
instance (d : List Int) : Decidable (lowB ax z d) := by unfold lowB; infer_instance
end
end TW
set_option Elab.async false
set_option linter.all false
set_option maxRecDepth 100000
set_option maxHeartbeats 4000000
namespace TW
open PySem PySem.Spec PyProof.Rows L2 DL
/-- pairs of small sides -/
structure Pq9 (p q : List Int) : Prop where
  l : q.length = p.length
  l0 : 0 < p.length
  l1 : p.length ≤ 4
  p : ∀ x ∈ p, 1 ≤ x ∧ x ≤ 1000
  q : ∀ x ∈ q, 1 ≤ x ∧ x ≤ 1000
end TW
set_option Elab.async false
set_option linter.all false
set_option maxRecDepth 100000
set_option maxHeartbeats 4000000
namespace TW
open PySem PySem.Spec PyProof.Rows L2 DL
theorem In.snoc {m y : Int} {ns : List Int} (h : In m ns) (h0 : 1 ≤ y) (h1 : y ≤ m) : In m (ns ++ [y]) := fun x hx => by
  rcases List.mem_append.mp hx with q | q
  · exact h x q
  · rw [List.mem_singleton.mp q]; exact ⟨h0, h1⟩
end TW
set_option Elab.async false
set_option linter.all false
set_option maxRecDepth 100000
set_option maxHeartbeats 4000000
namespace TW
open PySem PySem.Spec PyProof.Rows L2 DL
def jointF (a b : Int) : Int := a / gcdI a b * b
/-- which sides fit -/
inductive Way
  | non
  | steps (k : Int)
  | sums (l h : Int)
def Way.d : Way → PyData
  | .non => .tuple [.str "none"]
  | .steps k => .tuple [.str "steps", .int k]
  | .sums l h => .tuple [.str "sums", .int l, .int h]
def Way.fits : Way → Int → Bool
  | .non, _ => false
  | .steps k, s => decide (s % k = 0)
  | .sums l h, s => isSum l h s
def gapF : Way → PyData
  | .steps k => if k = 1 then .int 0 else .none
  | .sums l h => if gcdI l h = 1 then .int (l * h - l - h) else .none
  | .non => .none
def tailF : Way → PyData
  | .steps k => .tuple [.int 1, .int k]
  | .sums l h => .tuple [.int (jointF l h - l - h + 1), .int (gcdI l h)]
  | .non => .tuple [.int 1, .int 1]
end TW
set_option Elab.async false
set_option linter.all false
set_option maxRecDepth 100000
set_option maxHeartbeats 4000000
namespace TW
open PySem PySem.Spec PyProof.Rows L2 DL
end TW
set_option Elab.async false
set_option linter.all false
set_option maxRecDepth 100000
set_option maxHeartbeats 4000000
namespace TW
open PySem PySem.Spec PyProof.Rows L2 DL
end TW
set_option Elab.async false
set_option linter.all false
set_option maxRecDepth 100000
set_option maxHeartbeats 4000000
namespace TW
open PySem PySem.Spec PyProof.Rows L2 DL
/-- how it goes on -/
structure Tail (w : Way) (c g : Int) : Prop where
  g1 : 1 ≤ g
  c0 : 0 ≤ c
  far : ∀ s, c < s → (w.fits s = true ↔ g ∣ s)
  at0 : c = 0 ∨ (1 ≤ c ∧ w.fits c = false ∧ g ∣ c)
  tl : tailF w = .tuple [.int (c + 1), .int g]
  gp : gapF w = if g = 1 then .int c else .none
end TW
set_option Elab.async false
set_option linter.all false
set_option maxRecDepth 100000
set_option maxHeartbeats 4000000
namespace TW
open PySem PySem.Spec PyProof.Rows L2 DL
end TW
set_option Elab.async false
set_option linter.all false
set_option maxRecDepth 100000
set_option maxHeartbeats 4000000
namespace TW
open PySem PySem.Spec PyProof.Rows L2 DL
end TW
set_option Elab.async false
set_option linter.all false
set_option maxRecDepth 100000
set_option maxHeartbeats 4000000
namespace TW
open PySem PySem.Spec PyProof.Rows L2 DL
end TW
set_option Elab.async false
set_option linter.all false
set_option maxRecDepth 100000
set_option maxHeartbeats 4000000
namespace TW
open PySem PySem.Spec PyProof.Rows L2 DL
end TW
set_option Elab.async false
set_option linter.all false
set_option maxRecDepth 100000
set_option maxHeartbeats 4000000
namespace TW
open PySem PySem.Spec PyProof.Rows L2 DL
theorem bx_mem {ks : List (List Int)} {k : Nat} (h : k < ks.length) : bxOf ks k ∈ ks := by
  unfold bxOf; rw [List.getD_eq_getElem?_getD, List.getElem?_eq_getElem h]; exact List.getElem_mem h
end TW
set_option Elab.async false
set_option linter.all false
set_option maxRecDepth 100000
set_option maxHeartbeats 4000000
namespace TW
open PySem PySem.Spec PyProof.Rows L2 DL
def atK (k : Nat) (c : List Int) : PyData := .tuple [.int (k : Int), tI c]
end TW
set_option Elab.async false
set_option linter.all false
set_option maxRecDepth 100000
set_option maxHeartbeats 4000000
namespace TW
open PySem PySem.Spec PyProof.Rows L2 DL
end TW
set_option Elab.async false
set_option linter.all false
set_option maxRecDepth 100000
set_option maxHeartbeats 4000000
namespace TW
open PySem PySem.Spec PyProof.Rows L2 DL
end TW
set_option Elab.async false
set_option linter.all false
set_option maxRecDepth 100000
set_option maxHeartbeats 4000000
namespace TW
open PySem PySem.Spec PyProof.Rows L2 DL
/-- how many bricks of each kind -/
def cntR (kn : Nat) (cs : List (List Int)) : Row → List Int
  | .one k => (List.range kn).map fun q => if q = k then 1 else 0
  | .two _ i j => (List.range kn).map fun q => gi (bxOf cs i) q + gi (bxOf cs j) q
def cntsR (kn : Nat) : List (List Int) → List Row → List (List Int)
  | cs, [] => cs
  | cs, r :: rs => cntsR kn (cs ++ [cntR kn cs r]) rs
/-- how many rows are gone through -/
def wtR (ws : List Nat) : Row → Nat
  | .one _ => 1
  | .two _ i j => ws.getD i 0 + ws.getD j 0 + 1
def wtsR : List Nat → List Row → List Nat
  | ws, [] => ws
  | ws, r :: rs => wtsR (ws ++ [wtR ws r]) rs
def plD (p : Nat × List Int) : PyData := .tuple [.int (p.1 : Int), tI p.2]
abbrev Pl (n : Nat) (ks : List (List Int)) (rs : List Row) : Prop := Kd n ks ∧ ValidR ks n [] rs ∧ 0 < rs.length ∧ rs.length ≤ 1100
def sp_boxes_of : DSp := fun cs R => ∃ n ks rs, cs = [.d (ksD ks), .d (rowsD rs)] ∧ Pl n ks rs ∧ R (.list (lT (boxesR ks [] rs))) cs
def sp_Lplan_boxes : DSp := sp_boxes_of
def w_Lplan_boxes_1 : DTS := (wAppend 2 (wIfE (wB (wOp pEq (wFn pLen (wCons (wVar 3) wNil)) (wC (.int 1)))) (wOp pIx (wVar 0) (wOp pIx (wVar 3) (wC (.int 0)))) (wCall [] sp_Lput (wCons (wOp pIx (wVar 2) (wOp pIx (wVar 3) (wC (.int 1)))) (wCons (wOp pIx (wVar 2) (wOp pIx (wVar 3) (wC (.int 2)))) (wCons (wOp pIx (wVar 3) (wC (.int 0))) wNil))))))
def w_Lplan_boxes_s1 : DTS := (wSeq (wFor (iSeq (wVar 1)) (gN 3) w_Lplan_boxes_1) (wRet (wVar 2)))
@[simp ↓] theorem w_Lplan_boxes_s1_ap (E : DEnds) (δ : DS) : w_Lplan_boxes_s1 E δ = (wSeq (wFor (iSeq (wVar 1)) (gN 3) w_Lplan_boxes_1) (wRet (wVar 2))) E δ := rfl
def w_Lplan_boxes : DTS := (wSeq (wSet 2 (mL (wLst wNil))) w_Lplan_boxes_s1)
theorem ln_Lplan_boxes : ∀ cs R, sp_Lplan_boxes cs R → cs.length = 2 := by
  intro cs R h
  unfold sp_Lplan_boxes at h
  repeat (obtain ⟨_, h⟩ := h)
  subst_vars; rfl
end TW
set_option Elab.async false
set_option linter.all false
set_option maxRecDepth 100000
set_option maxHeartbeats 4000000
namespace TW
open PySem PySem.Spec PyProof.Rows L2 DL
/-- boxes are not beyond all bounds -/
theorem boxes_bd {ks : List (List Int)} {n : Nat} (hk : Kd n ks) : ∀ (rs : List Row) (bs : List (List Int)) (m : Int), 10 ^ 12 ≤ m → (∀ b ∈ bs, b.length = n ∧ In m b) → ValidR ks n bs rs → ∀ b ∈ boxesR ks bs rs, b.length = n ∧ In (m * 2 ^ rs.length) b
  | [], bs, m, _, h, _, b, hb => by
    rw [List.length_nil, Int.pow_zero, Int.mul_one]; exact h b hb
  | r :: rs, bs, m, hm, h, v, b, hb => by
    have e : m * 2 ^ (r :: rs).length = (2 * m) * 2 ^ rs.length := by
      rw [List.length_cons, Int.pow_succ, Int.mul_comm (2 ^ rs.length) 2, ← Int.mul_assoc, Int.mul_comm m 2]
    rw [e]
    have bm : Bm n m bs := ⟨h⟩
    refine boxes_bd hk rs (bs ++ [boxR ks bs r]) (2 * m) (by omega) (fun x hx => ?_) v.2 b hb
    rcases List.mem_append.mp hx with q | q
    · obtain ⟨h1, h2⟩ := h x q
      exact ⟨h1, fun y hy => by have := h2 y hy; omega⟩
    · rw [List.mem_singleton.mp q]
      have g := v.1.1
      cases r with
      | one k =>
        obtain ⟨_, l1, b1⟩ := hk.at (i := k) g
        exact ⟨l1, fun y hy => by have := b1 y hy; omega⟩
      | two ax i j =>
        obtain ⟨hx, hi, hj⟩ := g
        obtain ⟨_, l1, b1⟩ := bm.at hi
        obtain ⟨_, l2, b2⟩ := bm.at hj
        have c1 := b1 _ (gi_mem (show ax < (bxOf bs i).length by omega))
        have c2 := b2 _ (gi_mem (show ax < (bxOf bs j).length by omega))
        exact ⟨by show ((bxOf bs i).set ax _).length = n; rw [List.length_set]; exact l1, In.set (fun y hy => by have := b1 y hy; omega) (by omega) (by omega)⟩
theorem Pl.bs {n : Nat} {ks : List (List Int)} {rs : List Row} (h : Pl n ks rs) (m : Nat) : Bs n (boxesR ks [] (rs.take m)) := by
  obtain ⟨hk, hv, _, hl⟩ := h
  have q := boxes_bd hk (rs.take m) [] (10 ^ 12) (Int.le_refl _) (by simp) (valid_take hv m)
  have le : (10 ^ 12 : Int) * 2 ^ (rs.take m).length ≤ 10 ^ 400 := by
    have : (rs.take m).length ≤ 1100 := by rw [List.length_take]; omega
    have p : (2 : Int) ^ (rs.take m).length ≤ 2 ^ 1100 := by
      have q := Nat.pow_le_pow_right (show 0 < 2 by decide) this
      have q2 : ((2 ^ (rs.take m).length : Nat) : Int) ≤ ((2 ^ 1100 : Nat) : Int) := Int.ofNat_le.mpr q
      rw [Int.natCast_pow, Int.natCast_pow] at q2
      exact q2
    have p2 : (10 ^ 12 : Int) * 2 ^ 1100 ≤ 10 ^ 400 := by decide +kernel
    have := Int.mul_le_mul_of_nonneg_left p (show (0 : Int) ≤ 10 ^ 12 by decide)
    exact Int.le_trans this p2
  exact ⟨fun b hb => (q b hb).1, fun b hb x hx => by have := (q b hb).2 x hx; exact ⟨this.1, Int.le_trans this.2 le⟩⟩
theorem take_snoc {rs : List Row} {d : Nat} (h : d < rs.length) : rs.take (d + 1) = rs.take d ++ [rs.getD d (.one 0)] := by
  rw [List.take_succ, List.getElem?_eq_getElem h, List.getD_eq_getElem?_getD, List.getElem?_eq_getElem h]; rfl
theorem Pl.row {n : Nat} {ks : List (List Int)} {rs : List Row} (h : Pl n ks rs) {d : Nat} (hd : d < rs.length) : RowGood ks.length n (boxesR ks [] (rs.take d)) (rs.getD d (.one 0)) ∧ (boxesR ks [] (rs.take d)).length = d := by
  have v := valid_take h.2.1 (d + 1)
  rw [take_snoc hd, valid_app] at v
  refine ⟨v.2.1, ?_⟩
  rw [boxesR_len, List.length_take]; simp; omega
theorem rows_map (rs : List Row) : rs.map Row.d = (List.range rs.length).map fun i => (rs.getD i (.one 0)).d := by
  apply List.ext_getElem?
  intro i
  by_cases h : i < rs.length
  · have e : rs.getD i (.one 0) = rs[i] := by rw [List.getD_eq_getElem?_getD, List.getElem?_eq_getElem h]; rfl
    rw [List.getElem?_map, List.getElem?_map, List.getElem?_range h, List.getElem?_eq_getElem h]
    show some _ = some (rs.getD i (.one 0)).d
    rw [e]
  · rw [List.getElem?_eq_none (by simp; omega), List.getElem?_eq_none (by simp; omega)]
theorem lT_get {bs : List (List Int)} {i : Nat} (h : i < bs.length) : bs[i]? = some (bxOf bs i) := by
  unfold bxOf; rw [List.getD_eq_getElem?_getD, List.getElem?_eq_getElem h]; rfl
theorem rd_Lplan_boxes : ∀ cs R, sp_Lplan_boxes cs R → w_Lplan_boxes (endsOf cs R) (start0 4 cs) := by
  rintro _ R ⟨n, ks, rs, rfl, h, hR⟩
  simp -implicitDefEqProofs -dsimp [w_Lplan_boxes]
  intro a
  rw [rows_map]
  refine for_plain (List.range rs.length) _ rfl (fun rest δ => ∃ (d : Nat) (c3 : Cell), d + rest.length = rs.length ∧ rest = List.range' d (rs.length - d) ∧ δ = [.d (ksD ks), .d (rowsD rs), .ol a (lT (boxesR ks [] (rs.take d))), c3]) ⟨0, _, by simp, by simp [List.range_eq_range'], rfl⟩ ?_ ?_
  · rintro δ ⟨d, c3, hd, _, rfl⟩
    have : d = rs.length := by simpa using hd
    subst this
    rw [List.take_length]
    revert hR
    generalize boxesR ks [] rs = bs
    intro hR
    (try simp -implicitDefEqProofs -dsimp)
    exact hR
  · rintro i rest δ ⟨d, c3, hd, hr, rfl⟩ K B T hK
    have hlt : d < rs.length := by simp at hd; omega
    rw [show rs.length - d = (rs.length - d - 1) + 1 by omega, List.range'_succ, List.cons.injEq] at hr
    obtain ⟨rfl, hr⟩ := hr
    obtain ⟨g, lb⟩ := h.row hlt
    have e1 : boxesR ks [] (rs.take (i + 1)) = boxesR ks [] (rs.take i) ++ [boxR ks (boxesR ks [] (rs.take i)) (rs.getD i (.one 0))] := by rw [take_snoc hlt, boxesR_app]; rfl
    have hb := h.bs i
    obtain ⟨r, hr1⟩ : ∃ r, rs.getD i (.one 0) = r := ⟨_, rfl⟩
    obtain ⟨bs, hbs⟩ : ∃ bs, boxesR ks [] (rs.take i) = bs := ⟨_, rfl⟩
    rw [hr1, hbs] at g e1
    rw [hbs] at lb hb
    rw [hr1, hbs]
    have l1 := h.2.2.2
    have n1 := h.1.n1
    have fin : ∀ c3, K [.d (ksD ks), .d (rowsD rs), .ol a (lT bs ++ [tI (boxR ks bs r)]), c3] := fun c3 => hK _ ⟨i + 1, c3, by simp at hd; omega, by rw [hr]; congr 1, by rw [e1, ← lT_app]⟩
    cases r with
    | one k =>
      obtain ⟨ek, _, _⟩ := h.1.at (i := k) g.1
      simp -implicitDefEqProofs -dsimp [w_Lplan_boxes_1, Row.d, ek]
      exact ⟨⟨a, _, rfl⟩, by omega, fin _⟩
    | two ax i1 j1 =>
      obtain ⟨⟨hx, hi1, hj1⟩, ga⟩ := g
      have ag := ga ax i1 j1 rfl
      obtain ⟨x1, y1, _⟩ := hb.at hi1
      obtain ⟨x2, y2, _⟩ := hb.at hj1
      simp -implicitDefEqProofs -dsimp [w_Lplan_boxes_1, Row.d, x1, x2]
      refine ⟨⟨a, _, rfl⟩, ask_of (sp := sp_Lput) ⟨_, _, ax, rfl, by omega, by omega, by omega, ?_⟩⟩
      rw [if_pos ag]
      (try simp -implicitDefEqProofs -dsimp)
      exact ⟨by omega, fin _⟩
theorem get_last {bs : List (List Int)} {m : Nat} (h : bs.length = m) (h0 : 0 < m) : bs.getLast? = some (bxOf bs (m - 1)) := by
  rw [List.getLast?_eq_getElem?, h]
  exact lT_get (by omega)
theorem cntsR_app (kn : Nat) : ∀ (xs ys : List Row) (bs : List (List Int)), cntsR kn bs (xs ++ ys) = cntsR kn (cntsR kn bs xs) ys
  | [], _, _ => rfl
  | x :: xs, ys, bs => cntsR_app kn xs ys _
theorem cntsR_len (kn : Nat) : ∀ (xs : List Row) (bs : List (List Int)), (cntsR kn bs xs).length = bs.length + xs.length
  | [], _ => rfl
  | x :: xs, bs => by
    show (cntsR kn (bs ++ [cntR kn bs x]) xs).length = _
    rw [cntsR_len kn xs]; simp; omega
theorem cntR_len (kn : Nat) (cs : List (List Int)) (r : Row) : (cntR kn cs r).length = kn := by cases r <;> simp [cntR]
theorem cntsR_each (kn : Nat) : ∀ (xs : List Row) (bs : List (List Int)), (∀ b ∈ bs, b.length = kn) → ∀ b ∈ cntsR kn bs xs, b.length = kn
  | [], _, h => h
  | x :: xs, bs, h => cntsR_each kn xs (bs ++ [cntR kn bs x]) fun b hb => by
    rcases List.mem_append.mp hb with q | q
    · exact h b q
    · rw [List.mem_singleton.mp q]; exact cntR_len _ _ _
theorem bx_len' {kn : Nat} {bs : List (List Int)} (h : ∀ b ∈ bs, b.length = kn) {i : Nat} (hi : i < bs.length) : (bxOf bs i).length = kn := h _ (List.mem_of_getElem? (lT_get hi))
theorem wtsR_app : ∀ (xs ys : List Row) (ws : List Nat), wtsR ws (xs ++ ys) = wtsR (wtsR ws xs) ys
  | [], _, _ => rfl
  | x :: xs, ys, ws => wtsR_app xs ys _
theorem wtsR_ext : ∀ (xs : List Row) (ws : List Nat), ∃ t, wtsR ws xs = ws ++ t ∧ t.length = xs.length
  | [], ws => ⟨[], by simp [wtsR], rfl⟩
  | x :: xs, ws => by
    obtain ⟨t, e, l⟩ := wtsR_ext xs (ws ++ [wtR ws x])
    exact ⟨wtR ws x :: t, by show wtsR (ws ++ [wtR ws x]) xs = _; rw [e]; simp, by simp [l]⟩
/-- the weight of a row is told by those ahead -/
theorem wts_at {rs : List Row} {d : Nat} (h : d < rs.length) : (wtsR [] rs).getD d 0 = wtR (wtsR [] (rs.take d)) (rs.getD d (.one 0)) ∧ ∀ i, i < d → (wtsR [] (rs.take d)).getD i 0 = (wtsR [] rs).getD i 0 := by
  have e := wtsR_app (rs.take (d + 1)) (rs.drop (d + 1)) []
  rw [List.take_append_drop, take_snoc h, wtsR_app] at e
  obtain ⟨t0, e0, l0⟩ := wtsR_ext (rs.take d) []
  have l0 : t0.length = d := by rw [l0, List.length_take]; omega
  obtain ⟨t, e2, _⟩ := wtsR_ext (rs.drop (d + 1)) (wtsR (wtsR [] (rs.take d)) [rs.getD d (.one 0)])
  rw [e2] at e
  have e3 : wtsR (wtsR [] (rs.take d)) [rs.getD d (.one 0)] = wtsR [] (rs.take d) ++ [wtR (wtsR [] (rs.take d)) (rs.getD d (.one 0))] := rfl
  rw [e3] at e
  have ll : (wtsR [] (rs.take d)).length = d := by rw [e0]; simpa using l0
  refine ⟨?_, fun i hi => ?_⟩
  · rw [e, List.getD_eq_getElem?_getD, List.append_assoc, List.getElem?_append_right (by omega), ll, Nat.sub_self]; rfl
  · rw [e, List.getD_eq_getElem?_getD, List.getD_eq_getElem?_getD, List.append_assoc, List.getElem?_append_left (by omega)]
/-- what may wait -/
structure StOk (n : Nat) (rs : List Row) (st : List (Nat × List Int)) : Prop where
  ix : ∀ p ∈ st, p.1 < rs.length ∧ p.2.length = n
theorem srt_pl (L : List (Nat × List Int)) : W.AllAlike (L.map plD) ∧ W.Sortable (L.map plD) ∧ ∀ d ∈ L.map plD, d.depth ≤ 50 := by
  refine ⟨W.AllAlike.of fun p q => ?_, .inl fun d hd => ?_, fun d hd => ?_⟩
  · show W.alike (.tuple [.int _, .tuple (p.2.map .int)]) (.tuple [.int _, .tuple (q.2.map .int)]) = true
    simp [W.alike, W.alikeAll, W.alike_ints]
  · obtain ⟨p, hp, rfl⟩ := List.mem_map.mp hd
    exact ⟨_, _, rfl⟩
  · obtain ⟨p, hp, rfl⟩ := List.mem_map.mp hd
    have := W.depth_ints p.2
    show PyData.depth (.tuple [.int _, .tuple (p.2.map .int)]) ≤ 50
    simp [PyData.depth, PyData.depthAll, this]
/-- the row at an index and the boxes it stands on -/
theorem Pl.two {n : Nat} {ks : List (List Int)} {rs : List Row} (h : Pl n ks rs) {d ax i j : Nat} (hd : d < rs.length) (e : rs.getD d (.one 0) = .two ax i j) : ax < n ∧ i < d ∧ j < d ∧ (wtsR [] rs).getD d 0 = (wtsR [] rs).getD i 0 + (wtsR [] rs).getD j 0 + 1 := by
  obtain ⟨⟨g, _⟩, lb⟩ := h.row hd
  rw [e, lb] at g
  obtain ⟨g1, g2, g3⟩ := g
  obtain ⟨w1, w2⟩ := wts_at hd
  refine ⟨g1, g2, g3, ?_⟩
  rw [w1, e]
  show _ + _ + 1 = _
  rw [w2 i g2, w2 j g3]
theorem Pl.all {n : Nat} {ks : List (List Int)} {rs : List Row} (h : Pl n ks rs) : Bs n (boxesR ks [] rs) ∧ (boxesR ks [] rs).length = rs.length := by
  have := h.bs rs.length
  rw [List.take_length] at this
  exact ⟨this, by rw [boxesR_len]; simp⟩
end TW
set_option Elab.async false
set_option linter.all false
set_option maxRecDepth 100000
set_option maxHeartbeats 4000000
namespace TW
open PySem PySem.Spec PyProof.Rows L2 DL
def quoF (sides brick : List Int) : List Int := List.zipWith (fun s o => s / o) sides brick
def rowF (brick begin cell : List Int) : List Int := (List.range brick.length).map fun i => gi begin i + gi cell i * gi brick i
abbrev flD (fl : List (Nat × List Int)) : List PyData := fl.map fun p => atK p.1 p.2
/-- a filling -/
structure FL (ks : List (List Int)) (bx : List Int) (fl : List (Nat × List Int)) : Prop where
  fit : ∀ p ∈ fl, p.1 < ks.length ∧ Fits (bxOf ks p.1) bx p.2
  asc : fl.Pairwise fun p q => W.dataLt (atK p.1 p.2) (atK q.1 q.2) = true
  dis : fl.Pairwise fun p q => ∀ d, d ∈ covF (bxOf ks p.1) p.2 → d ∉ covF (bxOf ks q.1) q.2
  all : ∀ d ∈ cellsF bx, ∃ p ∈ fl, d ∈ covF (bxOf ks p.1) p.2
end TW
set_option Elab.async false
set_option linter.all false
set_option maxRecDepth 100000
set_option maxHeartbeats 4000000
namespace TW
open PySem PySem.Spec PyProof.Rows L2 DL
theorem alike_ints : ∀ {a b : List Int}, a.length = b.length → W.alikeAll (lI a) (lI b) = true
  | [], [], _ => by simp [W.alikeAll]
  | [], _ :: _, h => by simp at h
  | _ :: _, [], h => by simp at h
  | x :: a, y :: b, h => by
    have := alike_ints (a := a) (b := b) (by simpa using h)
    simp only [lI, List.map_cons, W.alikeAll, W.alike, Bool.true_and] at this ⊢
    exact this
theorem vol_le0 : ∀ {a b : List Int}, a.length = b.length → (∀ i, i < b.length → 0 ≤ gi a i ∧ gi a i ≤ gi b i) → 0 ≤ vol a ∧ vol a ≤ vol b
  | [], [], _, _ => by decide
  | [], _ :: _, h, _ => by simp at h
  | _ :: _, [], h, _ => by simp at h
  | x :: a, y :: b, hl, h => by
    obtain ⟨v1, v2⟩ := vol_le0 (a := a) (b := b) (by simpa using hl) fun i hi => h (i + 1) (by simp; omega)
    have h0 : 0 ≤ x ∧ x ≤ y := h 0 (by simp)
    rw [vol_cons, vol_cons]
    have m1 := Int.mul_le_mul h0.2 v2 (by omega) (by omega)
    have m2 := Int.mul_nonneg h0.1 v1
    omega
theorem gi_quo {sides brick : List Int} {i : Nat} (hs : i < sides.length) (hb : i < brick.length) : gi (quoF sides brick) i = gi sides i / gi brick i := by
  unfold gi quoF
  rw [List.getElem?_zipWith, List.getElem?_eq_getElem hs, List.getElem?_eq_getElem hb]
  rfl
theorem vol_side1 : ∀ {bx : List Int}, (∀ x ∈ bx, 1 ≤ x) → ∀ {i : Nat}, i < bx.length → vol bx ≤ 400 → gi bx i ≤ 400
  | [], _, i, h, _ => by simp at h
  | y :: bx, hb, i, hi, hv => by
    have y1 := hb y (by simp)
    have v1 := vol_pos (ns := bx) fun z hz => hb z (by simp [hz])
    rw [vol_cons] at hv
    cases i with
    | zero =>
      show y ≤ 400
      have := Int.mul_le_mul_of_nonneg_left v1 (show 0 ≤ y by omega)
      omega
    | succ i =>
      have := Int.mul_le_mul_of_nonneg_right y1 (show 0 ≤ vol bx by omega)
      show gi bx i ≤ 400
      exact vol_side1 (bx := bx) (i := i) (fun z hz => hb z (by simp [hz])) (by simpa using hi) (by omega)
theorem valD_any (kvs : KVs) (k : List Int) : (valD kvs k).isSome = kvs.any fun p => decide (p.1 = k) := by
  unfold valD
  rw [Option.isSome_map, Bool.eq_iff_iff, List.find?_isSome, List.any_eq_true]
theorem gi_row {b begin c : List Int} {i : Nat} (h : i < b.length) : gi (rowF b begin c) i = gi begin i + gi c i * gi b i := by
  unfold rowF
  exact gi_range h
theorem row_fit {b begin sides c : List Int} (l1 : sides.length = b.length) (hb : ∀ x ∈ b, 1 ≤ x) (hc : c ∈ cellsF (quoF sides b)) {i : Nat} (hi : i < b.length) :
    gi begin i ≤ gi (rowF b begin c) i ∧ gi (rowF b begin c) i + gi b i ≤ gi begin i + gi sides i := by
  have lq : (quoF sides b).length = b.length := by unfold quoF; simp [l1]
  obtain ⟨_, m⟩ := (mem_cells _ _ rfl c).mp hc
  have q := m i (by omega)
  rw [gi_quo (by omega) hi] at q
  have b1 := hb _ (gi_mem hi)
  rw [gi_row hi]
  have f := (floor_bd (gi sides i) b1).1
  have p1 := Int.mul_le_mul_of_nonneg_right (show gi c i + 1 ≤ gi sides i / gi b i by omega) (show 0 ≤ gi b i by omega)
  have p2 := Int.mul_nonneg q.1 (show 0 ≤ gi b i by omega)
  rw [Int.add_mul] at p1
  omega
theorem row_len {b begin c : List Int} : (rowF b begin c).length = b.length := by simp [rowF]
theorem row_cov {b begin sides d : List Int} (l1 : sides.length = b.length) (hb : ∀ x ∈ b, 1 ≤ x) (dv : ∀ i, i < b.length → gi b i ∣ gi sides i) (ld : d.length = b.length) (hd : ∀ i, i < b.length → gi begin i ≤ gi d i ∧ gi d i < gi begin i + gi sides i) :
    ∃ c ∈ cellsF (quoF sides b), d ∈ covF b (rowF b begin c) := by
  have lq : (quoF sides b).length = b.length := by unfold quoF; simp [l1]
  have g : ∀ i, i < b.length → gi ((List.range b.length).map fun i => (gi d i - gi begin i) / gi b i) i = (gi d i - gi begin i) / gi b i := fun i hi => gi_range hi
  refine ⟨(List.range b.length).map fun i => (gi d i - gi begin i) / gi b i, (mem_cells _ _ rfl _).mpr ⟨by simp [lq], fun i hi => ?_⟩, (mem_cov (by rw [row_len])).mpr ⟨ld, fun i hi => ?_⟩⟩
  · have hi : i < b.length := by omega
    have b1 := hb _ (gi_mem hi)
    have h := hd i hi
    rw [g i hi, gi_quo (by omega) hi]
    refine ⟨Int.ediv_nonneg (by omega) (by omega), ?_⟩
    obtain ⟨k, hk⟩ := dv i hi
    rw [hk, Int.mul_ediv_cancel_left _ (by omega)]
    refine Int.ediv_lt_of_lt_mul (by omega) ?_
    rw [Int.mul_comm k]
    omega
  · have b1 := hb _ (gi_mem hi)
    rw [gi_row hi, g i hi]
    have f := floor_bd (gi d i - gi begin i) b1
    omega
theorem row_uniq {b begin c c' d : List Int} (hb : ∀ x ∈ b, 1 ≤ x) (l1 : c.length = b.length) (l2 : c'.length = b.length) (h1 : d ∈ covF b (rowF b begin c)) (h2 : d ∈ covF b (rowF b begin c')) : c = c' := by
  obtain ⟨_, m1⟩ := (mem_cov (by rw [row_len])).mp h1
  obtain ⟨_, m2⟩ := (mem_cov (by rw [row_len])).mp h2
  refine gi_ext (by omega) fun i hi => ?_
  have hi : i < b.length := by omega
  have b1 := hb _ (gi_mem hi)
  have a1 := m1 i hi
  have a2 := m2 i hi
  rw [gi_row hi] at a1 a2
  have e1 := floor_eq (x := gi d i - gi begin i) (c := gi c i * gi b i) b1 (by rw [Int.mul_ediv_cancel _ (by omega)]) (by omega) (by omega)
  have e2 := floor_eq (x := gi d i - gi begin i) (c := gi c' i * gi b i) b1 (by rw [Int.mul_ediv_cancel _ (by omega)]) (by omega) (by omega)
  exact Int.eq_of_mul_eq_mul_right (by omega) (e1.symm.trans e2)
/-- both parts of a box -/
def flRows (k : Nat) (b begin sides : List Int) : List (Nat × List Int) := (cellsF (quoF sides b)).map fun c => (k, rowF b begin c)
theorem rows_dis {k : Nat} {b begin sides : List Int} (ks : List (List Int)) (hk : bxOf ks k = b) (l1 : sides.length = b.length) (hb : ∀ x ∈ b, 1 ≤ x) :
    (flRows k b begin sides).Pairwise fun p q => ∀ d, d ∈ covF (bxOf ks p.1) p.2 → d ∉ covF (bxOf ks q.1) q.2 := by
  unfold flRows
  rw [List.pairwise_map]
  have lq : (quoF sides b).length = b.length := by unfold quoF; simp [l1]
  have n := cells_nodup (quoF sides b)
  have al := cells_lens _ (quoF sides b) rfl
  unfold List.Nodup at n
  revert n al
  generalize cellsF (quoF sides b) = L
  intro n al
  refine n.imp_of_mem fun {x y} mx my hne d h1 h2 => hne ?_
  rw [hk] at h1 h2
  exact row_uniq hb (by rw [al x mx, lq]) (by rw [al y my, lq]) h1 h2
theorem gi_rep0 {n i : Nat} (h : i < n) : gi (List.replicate n 0) i = 0 := by
  unfold gi
  rw [List.getElem?_replicate, if_pos h]; rfl
end TW
set_option Elab.async false
set_option linter.all false
set_option maxRecDepth 100000
set_option maxHeartbeats 4000000
namespace TW
open PySem PySem.Spec PyProof.Rows L2 DL
abbrev Pl1 := Nat × List Int
/-- a filling in any order -/
structure FL0 (ks : List (List Int)) (bx : List Int) (fl : List Pl1) : Prop where
  fit : ∀ p ∈ fl, p.1 < ks.length ∧ Fits (bxOf ks p.1) bx p.2
  dis : fl.Pairwise fun p q => ∀ d, d ∈ covF (bxOf ks p.1) p.2 → d ∉ covF (bxOf ks q.1) q.2
  all : ∀ d ∈ cellsF bx, ∃ p ∈ fl, d ∈ covF (bxOf ks p.1) p.2
theorem FL.to0 {ks : List (List Int)} {bx : List Int} {fl : List Pl1} (h : FL ks bx fl) : FL0 ks bx fl := ⟨h.fit, h.dis, h.all⟩
theorem kin_at {ks : List (List Int)} {bx : List Int} (hk : Kin ks bx) {k : Nat} (h : k < ks.length) : (bxOf ks k).length = bx.length ∧ ∀ x ∈ bxOf ks k, 1 ≤ x := hk _ (bx_mem h)
theorem FL0.corner {ks : List (List Int)} {bx : List Int} {fl : List Pl1} (h : FL0 ks bx fl) (hk : Kin ks bx) {p : Pl1} (hp : p ∈ fl) : p.2 ∈ covF (bxOf ks p.1) p.2 := by
  obtain ⟨f1, f2⟩ := h.fit p hp
  obtain ⟨k1, k2⟩ := kin_at hk f1
  exact corner_in (by rw [f2.1, k1]) k2
theorem atK_inj {j k : Nat} {a b : List Int} (e : atK j a = atK k b) : j = k ∧ a = b := by
  unfold atK at e
  simp only [PyData.tuple.injEq, List.cons.injEq, PyData.int.injEq, and_true, tI] at e
  obtain ⟨e1, e2⟩ := e
  have e2 : lI a = lI b := e2
  have : a = b := by
    refine (List.map_inj_right ?_).mp e2
    intro a b h
    exact PyData.int.inj h
  exact ⟨by omega, this⟩
theorem flD_inj : ∀ {a b : List Pl1}, flD a = flD b → a = b
  | [], [], _ => rfl
  | [], _ :: _, h => by simp [flD] at h
  | _ :: _, [], h => by simp [flD] at h
  | x :: a, y :: b, h => by
    have h : atK x.1 x.2 :: flD a = atK y.1 y.2 :: flD b := h
    obtain ⟨h1, h2⟩ := List.cons.inj h
    obtain ⟨e1, e2⟩ := atK_inj h1
    rw [flD_inj h2, Prod.ext e1 e2]
theorem lt_le {a b : PyData} (h : W.dataLt a b = true) : leD a b = true := by
  show (!W.dataLt b a) = true
  cases h2 : W.dataLt b a with
  | false => rfl
  | true =>
    have := lex_trans (O := itemOrd) _ _ _ h h2
    rw [lex_irrefl] at this; cases this
/-- sorted once is sorted -/
theorem FL.sorted {ks : List (List Int)} {bx : List Int} {fl : List Pl1} (h : FL ks bx fl) : sortD (flD fl) = flD fl := by
  unfold sortD
  refine List.mergeSort_of_pairwise ?_
  unfold flD
  rw [List.pairwise_map]
  exact h.asc.imp fun {a b} h => lt_le h
theorem FL.unique {ks ks' : List (List Int)} {bx bx' : List Int} {fl fl' : List Pl1} (h : FL ks bx fl) (h' : FL ks' bx' fl') (pm : fl.Perm fl') : fl = fl' := by
  refine flD_inj ?_
  rw [← h.sorted, ← h'.sorted]
  exact sort_perm (srt_pl fl).1 (pm.map _)
theorem nodup_le : ∀ {l m : List (List Int)}, l.Nodup → (∀ x ∈ l, x ∈ m) → l.length ≤ m.length
  | [], m, _, _ => by simp
  | x :: l, m, hn, h => by
    obtain ⟨n1, n2⟩ := List.nodup_cons.mp hn
    have hx := h x (by simp)
    have := nodup_le (l := l) (m := m.erase x) n2 fun y hy => by
      have ne : y ≠ x := fun e => n1 (by rw [← e]; exact hy)
      exact (List.mem_erase_of_ne ne).mpr (h y (by simp [hy]))
    rw [List.length_erase_of_mem hx] at this
    have := List.length_pos_of_mem hx
    simp; omega
theorem FL0.len {ks : List (List Int)} {bx : List Int} {fl : List Pl1} (h : FL0 ks bx fl) (hk : Kin ks bx) : fl.length ≤ (cellsF bx).length := by
  have := nodup_le (l := fl.map (·.2)) (m := cellsF bx) (by
    unfold List.Nodup
    rw [List.pairwise_map]
    refine h.dis.imp_of_mem fun {x y} mx my hd e => ?_
    have c1 := h.corner hk mx
    have c2 := h.corner hk my
    rw [← e] at c2
    exact hd _ c1 (by rw [← e]; exact c2)) fun c hc => by
    obtain ⟨p, hp, rfl⟩ := List.mem_map.mp hc
    obtain ⟨f1, f2⟩ := h.fit p hp
    exact fits_in (kin_at hk f1).1 f2 (h.corner hk hp)
  rwa [List.length_map] at this
theorem FL0.lenV {ks : List (List Int)} {bx : List Int} {fl : List Pl1} (h : FL0 ks bx fl) (hk : Kin ks bx) (hb : ∀ x ∈ bx, 0 ≤ x) : (fl.length : Int) ≤ vol bx := by
  have := h.len hk
  have := cells_len _ bx rfl hb
  omega
def movA (ax : Nat) (z : Int) (p : Pl1) : Pl1 := (p.1, p.2.set ax (gi p.2 ax + z))
theorem cov_movA {b c d : List Int} {ax : Nat} {z : Int} (h : c.length = b.length) (hx : ax < b.length) : d ∈ covF b (c.set ax (gi c ax + z)) ↔ d.length = b.length ∧ d.set ax (gi d ax - z) ∈ covF b c := by
  rw [mem_cov (by simpa using h), mem_cov h]
  constructor
  · rintro ⟨h1, h2⟩
    refine ⟨h1, by simpa using h1, fun i hi => ?_⟩
    have := h2 i hi
    rw [gi_set (by omega)] at this ⊢
    split at this
    · rename_i e; rw [if_pos e]; subst e; omega
    · rename_i e; rw [if_neg e]; omega
  · rintro ⟨h1, _, h2⟩
    refine ⟨h1, fun i hi => ?_⟩
    have := h2 i hi
    rw [gi_set (by omega)] at this ⊢
    split at this
    · rename_i e; rw [if_pos e]; subst e; omega
    · rename_i e; rw [if_neg e]; omega
theorem gi_set_eq {l : List Int} {ax : Nat} {y : Int} (h : ax < l.length) : gi (l.set ax y) ax = y := by rw [gi_set h, if_pos rfl]
theorem gi_set_ne {l : List Int} {ax i : Nat} {y : Int} (h : i < l.length) (hn : i ≠ ax) : gi (l.set ax y) i = gi l i := by rw [gi_set h, if_neg hn]
/-- two filled boxes behind one another -/
theorem FL0.put {ks : List (List Int)} {bx : List Int} {ax : Nat} {z m : Int} {f1 f2 : List Pl1} (hk : Kin ks bx) (hx : ax < bx.length) (z0 : 0 ≤ z) (m0 : 0 ≤ m) (h1 : FL0 ks (bx.set ax z) f1) (h2 : FL0 ks (bx.set ax m) f2) :
    FL0 ks (bx.set ax (z + m)) (f1 ++ f2.map (movA ax z)) := by
  have k1 := fun {k} h => kin_at (k := k) hk h
  refine ⟨fun p hp => ?_, List.pairwise_append.mpr ⟨h1.dis, ?_, fun x hxm y hym d d1 d2 => ?_⟩, fun d hd => ?_⟩
  · rcases List.mem_append.mp hp with q | q
    · obtain ⟨a, b, c⟩ := h1.fit p q
      refine ⟨a, by simpa using b, fun i hi => ?_⟩
      have hi2 : i < bx.length := by simpa using hi
      have := c i (by simpa using hi)
      by_cases e : i = ax
      · subst e
        rw [gi_set_eq hi2] at this ⊢
        omega
      · rw [gi_set_ne hi2 e] at this ⊢
        omega
    · obtain ⟨r, hr, rfl⟩ := List.mem_map.mp q
      obtain ⟨a, b, c⟩ := h2.fit r hr
      have bl : r.2.length = bx.length := by simpa using b
      refine ⟨a, by simpa [movA] using bl, fun i hi => ?_⟩
      have hi2 : i < bx.length := by simpa using hi
      have := c i (by simpa using hi)
      show 0 ≤ gi (r.2.set ax (gi r.2 ax + z)) i ∧ gi (r.2.set ax (gi r.2 ax + z)) i + gi (bxOf ks r.1) i ≤ _
      by_cases e : i = ax
      · subst e
        rw [gi_set_eq hi2] at this ⊢
        rw [gi_set_eq (by omega)]
        omega
      · rw [gi_set_ne hi2 e] at this ⊢
        rw [gi_set_ne (by omega) e]
        omega
  · rw [List.pairwise_map]
    refine h2.dis.imp_of_mem fun {x y} mx my hd d d1 d2 => ?_
    obtain ⟨a, b, c⟩ := h2.fit x mx
    obtain ⟨a', b', c'⟩ := h2.fit y my
    have d1 : d ∈ covF (bxOf ks x.1) (x.2.set ax (gi x.2 ax + z)) := d1
    have d2 : d ∈ covF (bxOf ks y.1) (y.2.set ax (gi y.2 ax + z)) := d2
    have l1 : x.2.length = bx.length := by simpa using b
    have l2 : y.2.length = bx.length := by simpa using b'
    rw [cov_movA (by rw [l1, (k1 a).1]) (by rw [(k1 a).1]; exact hx)] at d1
    rw [cov_movA (by rw [l2, (k1 a').1]) (by rw [(k1 a').1]; exact hx)] at d2
    exact hd _ d1.2 d2.2
  · obtain ⟨r, hr, rfl⟩ := List.mem_map.mp hym
    obtain ⟨a, b, c⟩ := h1.fit x hxm
    obtain ⟨a', b', c'⟩ := h2.fit r hr
    have l1 : x.2.length = bx.length := by simpa using b
    have l2 : r.2.length = bx.length := by simpa using b'
    have d2 : d ∈ covF (bxOf ks r.1) (r.2.set ax (gi r.2 ax + z)) := d2
    have p1 := ((mem_cov (by rw [l1, (k1 a).1])).mp d1).2 ax (by rw [(k1 a).1]; exact hx)
    have p2 := ((mem_cov (by simp [l2, (k1 a').1])).mp d2).2 ax (by rw [(k1 a').1]; exact hx)
    rw [gi_set_eq (by omega)] at p2
    have q1 := c ax (by simpa using hx)
    have q2 := c' ax (by simpa using hx)
    rw [gi_set_eq hx] at q1
    omega
  · obtain ⟨dl, dm⟩ := (mem_cells _ _ rfl d).mp hd
    have dl : d.length = bx.length := by simpa using dl
    have dx := dm ax (by simpa using hx)
    rw [gi_set_eq hx] at dx
    have other : ∀ i, i < bx.length → i ≠ ax → 0 ≤ gi d i ∧ gi d i < gi bx i := fun i hi e => by
      have := dm i (by simpa using hi)
      rwa [gi_set_ne hi e] at this
    by_cases c : gi d ax < z
    · obtain ⟨p, hp, hm⟩ := h1.all d ((mem_cells _ _ rfl d).mpr ⟨by simpa using dl, fun i hi => by
        have hi2 : i < bx.length := by simpa using hi
        by_cases e : i = ax
        · subst e; rw [gi_set_eq hi2]; omega
        · rw [gi_set_ne hi2 e]; exact other i hi2 e⟩)
      exact ⟨p, List.mem_append.mpr (.inl hp), hm⟩
    · obtain ⟨p, hp, hm⟩ := h2.all (d.set ax (gi d ax - z)) ((mem_cells _ _ rfl _).mpr ⟨by simpa using dl, fun i hi => by
        have hi2 : i < bx.length := by simpa using hi
        by_cases e : i = ax
        · subst e; rw [gi_set_eq hi2, gi_set_eq (by omega)]; omega
        · rw [gi_set_ne hi2 e, gi_set_ne (by omega) e]; exact other i hi2 e⟩)
      obtain ⟨a, b, _⟩ := h2.fit p hp
      have l2 : p.2.length = bx.length := by simpa using b
      refine ⟨movA ax z p, List.mem_append.mpr (.inr (List.mem_map.mpr ⟨p, hp, rfl⟩)), ?_⟩
      show d ∈ covF (bxOf ks p.1) (p.2.set ax (gi p.2 ax + z))
      rw [cov_movA (by rw [l2, (k1 a).1]) (by rw [(k1 a).1]; exact hx)]
      exact ⟨by rw [(k1 a).1]; exact dl, hm⟩
theorem FL0.rows {ks : List (List Int)} {sides : List Int} {k : Nat} (hk : Kin ks sides) (h : k < ks.length) (hd : ∀ i, i < sides.length → gi (bxOf ks k) i ∣ gi sides i) : FL0 ks sides (flRows k (bxOf ks k) (List.replicate sides.length 0) sides) := by
  obtain ⟨l1, b1⟩ := kin_at hk h
  refine ⟨fun p hp => ?_, rows_dis ks rfl l1.symm b1, fun d hm => ?_⟩
  · obtain ⟨c, hc, rfl⟩ := List.mem_map.mp hp
    refine ⟨h, by rw [row_len, l1], fun i hi => ?_⟩
    have := row_fit (begin := List.replicate sides.length 0) l1.symm b1 hc (show i < (bxOf ks k).length by omega)
    rw [gi_rep0 hi] at this
    show 0 ≤ gi (rowF _ _ c) i ∧ gi (rowF _ _ c) i + gi (bxOf ks k) i ≤ _
    omega
  · obtain ⟨dl, dm⟩ := (mem_cells _ _ rfl d).mp hm
    obtain ⟨c, hc, hcv⟩ := row_cov (b := bxOf ks k) (begin := List.replicate sides.length 0) (sides := sides) (d := d) l1.symm b1 (fun i hi => hd i (by omega)) (by omega) fun i hi => by
      have := dm i (by omega)
      rw [gi_rep0 (by omega)]
      omega
    exact ⟨_, List.mem_map.mpr ⟨c, hc, rfl⟩, hcv⟩
def kindA (f : Nat → Nat) (p : Pl1) : Pl1 := (f p.1, p.2)
theorem FL0.kinds {ks ks' : List (List Int)} {bx : List Int} {f : Nat → Nat} {fl : List Pl1} (h : FL0 ks bx fl) (hf : ∀ k, k < ks.length → f k < ks'.length ∧ bxOf ks' (f k) = bxOf ks k) : FL0 ks' bx (fl.map (kindA f)) := by
  refine ⟨fun p hp => ?_, ?_, fun d hd => ?_⟩
  · obtain ⟨r, hr, rfl⟩ := List.mem_map.mp hp
    obtain ⟨a, b⟩ := h.fit r hr
    obtain ⟨c, e⟩ := hf _ a
    exact ⟨c, by show Fits (bxOf ks' (f r.1)) bx r.2; rw [e]; exact b⟩
  · rw [List.pairwise_map]
    refine h.dis.imp_of_mem fun {x y} mx my hd d d1 d2 => ?_
    have e1 := (hf _ (h.fit x mx).1).2
    have e2 := (hf _ (h.fit y my).1).2
    exact hd d (by rw [← e1]; exact d1) (by rw [← e2]; exact d2)
  · obtain ⟨r, hr, hm⟩ := h.all d hd
    exact ⟨kindA f r, List.mem_map.mpr ⟨r, hr, rfl⟩, by show d ∈ covF (bxOf ks' (f r.1)) r.2; rw [(hf _ (h.fit r hr).1).2]; exact hm⟩
theorem lx_lt : ∀ {a b : List Int}, a.length = b.length → lx a b → a < b
  | [], [], _, h => by simp [lx] at h
  | [], _ :: _, h, _ => by simp at h
  | _ :: _, [], h, _ => by simp at h
  | x :: a, y :: b, hl, h => by
    rw [List.cons_lt_cons_iff]
    rcases h with h | ⟨rfl, h⟩
    · exact .inl h
    · exact .inr ⟨rfl, lx_lt (by simpa using hl) h⟩
theorem lx_iff : ∀ {x y : List Int}, x.length = y.length → (lx x y ↔ ∃ i, i < x.length ∧ (∀ j, j < i → gi x j = gi y j) ∧ gi x i < gi y i)
  | [], [], _ => by simp [lx]
  | [], _ :: _, h => by simp at h
  | _ :: _, [], h => by simp at h
  | x :: a, y :: b, hl => by
    have ih := lx_iff (x := a) (y := b) (by simpa using hl)
    constructor
    · rintro (h | ⟨rfl, h⟩)
      · exact ⟨0, by simp, fun j hj => by omega, h⟩
      · obtain ⟨i, h1, h2, h3⟩ := ih.mp h
        refine ⟨i + 1, by simpa using h1, fun j hj => ?_, h3⟩
        cases j with
        | zero => rfl
        | succ j => exact h2 j (by omega)
    · rintro ⟨i, h1, h2, h3⟩
      cases i with
      | zero => exact .inl h3
      | succ i =>
        have h0 : x = y := h2 0 (by omega)
        exact .inr ⟨h0, ih.mpr ⟨i, by simpa using h1, fun j hj => h2 (j + 1) (by omega), h3⟩⟩
theorem lt_atK {k : Nat} {a b : List Int} (hl : a.length = b.length) (h : lx a b) : W.dataLt (atK k a) (atK k b) = true := by
  unfold atK
  have al : W.alike (tI a) (tI b) = true := by
    have := alike_ints hl
    unfold tI
    simpa [W.alike] using this
  rw [W.dataLt_pair (by simp [W.alike]) al, if_pos (by simp [PyData.eqv])]
  have ne : PyData.eqv (tI a) (tI b) = false := by
    cases e : PyData.eqv (tI a) (tI b) with
    | false => rfl
    | true =>
      have e2 := eq_of_eqv _ _ al e
      have e3 : a = b := (atK_inj (j := 0) (k := 0) (by unfold atK; rw [e2])).2
      subst e3
      exact (lx_ge h rfl fun i _ => Int.le_refl _).elim
  rw [ne, if_neg Bool.false_ne_true]
  unfold tI
  rw [W.dataLt_tuple]
  show W.rowLt (lI a) (lI b) = true
  unfold lI
  rw [W.dataLt_ints]
  exact decide_eq_true (lx_lt hl h)
theorem FL.rows {ks : List (List Int)} {sides : List Int} {k : Nat} (hk : Kin ks sides) (h : k < ks.length) (hd : ∀ i, i < sides.length → gi (bxOf ks k) i ∣ gi sides i) : FL ks sides (flRows k (bxOf ks k) (List.replicate sides.length 0) sides) := by
  have h0 := FL0.rows hk h hd
  obtain ⟨l1, b1⟩ := kin_at hk h
  refine ⟨h0.fit, ?_, h0.dis, h0.all⟩
  unfold flRows
  rw [List.pairwise_map]
  have so := cells_sorted (quoF sides (bxOf ks k))
  rw [← cells_eq] at so
  have lq : (quoF sides (bxOf ks k)).length = sides.length := by unfold quoF; simp [l1]
  have al := cells_lens _ (quoF sides (bxOf ks k)) rfl
  refine so.imp_of_mem fun {x y} mx my hxy => ?_
  have lx1 := al x mx
  have ly1 := al y my
  refine lt_atK (by rw [row_len, row_len]) ?_
  rw [lx_iff (by omega)] at hxy
  rw [lx_iff (by rw [row_len, row_len])]
  obtain ⟨i, h1, h2, h3⟩ := hxy
  refine ⟨i, by rw [row_len]; omega, fun j hj => ?_, ?_⟩
  · rw [gi_row (by omega), gi_row (by omega), h2 j hj]
  · rw [gi_row (by omega), gi_row (by omega)]
    have := b1 _ (gi_mem (show i < (bxOf ks k).length by omega))
    have := Int.mul_lt_mul_of_pos_right h3 (show 0 < gi (bxOf ks k) i by omega)
    omega
end TW
set_option Elab.async false
set_option linter.all false
set_option maxRecDepth 100000
set_option maxHeartbeats 4000000
namespace TW
open PySem PySem.Spec PyProof.Rows L2 DL
/-- a pair of n axes, sides up to m -/
structure Pq (n : Nat) (m : Int) (p q : List Int) : Prop where
  lp : p.length = n
  lq : q.length = n
  n0 : 0 < n
  n1 : n ≤ 4
  pp : ∀ x ∈ p, 1 ≤ x ∧ x ≤ m
  pq : ∀ x ∈ q, 1 ≤ x ∧ x ≤ m
/-- a box of n axes that is filled -/
structure Bo (n : Nat) (p q bx : List Int) : Prop where
  l : bx.length = n
  b : ∀ x ∈ bx, 1 ≤ x ∧ x ≤ 10 ^ 13
  f : Fill p q bx
end TW
set_option Elab.async false
set_option linter.all false
set_option maxRecDepth 100000
set_option maxHeartbeats 4000000
namespace TW
open PySem PySem.Spec PyProof.Rows L2 DL
end TW
set_option Elab.async false
set_option linter.all false
set_option maxRecDepth 100000
set_option maxHeartbeats 4000000
namespace TW
open PySem PySem.Spec PyProof.Rows L2 DL
end TW
set_option Elab.async false
set_option linter.all false
set_option maxRecDepth 100000
set_option maxHeartbeats 4000000
namespace TW
open PySem PySem.Spec PyProof.Rows L2 DL
end TW
set_option Elab.async false
set_option linter.all false
set_option maxRecDepth 100000
set_option maxHeartbeats 4000000
namespace TW
open PySem PySem.Spec PyProof.Rows L2 DL
/-- what the box's sides are made of -/
structure Ok (n : Nat) (c d : List Int) : Prop where
  p1 : ∀ i, i < n → 1 ≤ gi c i
  p2 : ∀ i, i < n → 1 ≤ gi d i
end TW
set_option Elab.async false
set_option linter.all false
set_option maxRecDepth 100000
set_option maxHeartbeats 4000000
namespace TW
open PySem PySem.Spec PyProof.Rows L2 DL
end TW
set_option Elab.async false
set_option linter.all false
set_option maxRecDepth 100000
set_option maxHeartbeats 4000000
namespace TW
open PySem PySem.Spec PyProof.Rows L2 DL
end TW
set_option Elab.async false
set_option linter.all false
set_option maxRecDepth 100000
set_option maxHeartbeats 4000000
namespace TW
open PySem PySem.Spec PyProof.Rows L2 DL
abbrev Dv (n : Nat) (p q : List Int) : Prop := ∀ i, i < n → gi p i ∣ gi q i
structure Br (n : Nat) (p : List Int) : Prop where
  l : p.length = n
  p : ∀ i, i < n → 1 ≤ gi p i
theorem Dv.le {n : Nat} {p q : List Int} (h : Dv n p q) (b : Br n q) {i : Nat} (hi : i < n) : gi p i ≤ gi q i := Int.le_of_dvd (by have := b.p i hi; omega) (h i hi)
theorem Dv.eq {n : Nat} {p q : List Int} (bp : Br n p) (bq : Br n q) (h : Dv n p q) (g : Dv n q p) : p = q := by
  refine gi_ext (by rw [bp.l, bq.l]) fun i hi => ?_
  rw [bp.l] at hi
  exact Int.le_antisymm (h.le bq hi) (g.le bp hi)
end TW
set_option Elab.async false
set_option linter.all false
set_option maxRecDepth 100000
set_option maxHeartbeats 4000000
namespace TW
open PySem PySem.Spec PyProof.Rows L2 DL
end TW
set_option Elab.async false
set_option linter.all false
set_option maxRecDepth 100000
set_option maxHeartbeats 4000000
namespace TW
open PySem PySem.Spec PyProof.Rows L2 DL
end TW
set_option Elab.async false
set_option linter.all false
set_option maxRecDepth 100000
set_option maxHeartbeats 4000000
namespace TW
open PySem PySem.Spec PyProof.Rows L2 DL
theorem vol_add : ∀ {l : List Int} {i : Nat} (x y : Int), i < l.length → vol (l.set i (x + y)) = vol (l.set i x) + vol (l.set i y)
  | [], _, _, _, h => by simp at h
  | a :: l, 0, x, y, _ => by
    show vol ((x + y) :: l) = vol (x :: l) + vol (y :: l)
    rw [vol_cons, vol_cons, vol_cons, Int.add_mul]
  | a :: l, i + 1, x, y, h => by
    show vol (a :: l.set i (x + y)) = vol (a :: l.set i x) + vol (a :: l.set i y)
    rw [vol_cons, vol_cons, vol_cons, vol_add x y (by simpa using h), Int.mul_add]
end TW
set_option Elab.async false
set_option linter.all false
set_option maxRecDepth 100000
set_option maxHeartbeats 4000000
namespace TW
open PySem PySem.Spec PyProof.Rows L2 DL
end TW
set_option Elab.async false
set_option linter.all false
set_option maxRecDepth 100000
set_option maxHeartbeats 4000000
namespace TW
open PySem PySem.Spec PyProof.Rows L2 DL
end TW
set_option Elab.async false
set_option linter.all false
set_option maxRecDepth 100000
set_option maxHeartbeats 4000000
namespace TW
open PySem PySem.Spec PyProof.Rows L2 DL
def nF : List Nat → Nat → Nat
  | [], f => if f = 0 then 1 else 0
  | m :: ms, f => nF ms f + if m &&& f = m then nF ms (f ^^^ m) else 0
end TW
set_option Elab.async false
set_option linter.all false
set_option maxRecDepth 100000
set_option maxHeartbeats 4000000
namespace TW
open PySem PySem.Spec PyProof.Rows L2 DL
def keysN (l : List (Nat × Nat)) : List Nat := l.map (·.1)
/-- how many ways there are on from what is known -/
def wayT (w : Nat → Nat) (l : List (Nat × Nat)) : Nat := (l.map fun p => p.2 * w p.1).sum
end TW
set_option Elab.async false
set_option linter.all false
set_option maxRecDepth 100000
set_option maxHeartbeats 4000000
namespace TW
open PySem PySem.Spec PyProof.Rows L2 DL
/-- a loop over a list, by what lies behind -/
theorem for_pre {α : Type} {g : DTG} {b : DTS} {δ : DS} {E : DEnds} {u : Stop E} {xs : List PyData} (as : List α) (d : α → PyData) (hx : xs = as.map d) (P : List α → DS → Prop) (h : P [] δ) (h0 : ∀ δ, P as δ → E.nx δ)
    (hs : ∀ pre a post δ, as = pre ++ a :: post → P pre δ → ∀ (K B : DS → Prop) (T : PyData → DS → Prop), (∀ δ', P (pre ++ [a]) δ' → K δ') → g (d a) δ fun δ1 => b { nx := K, rt := T, bk := B, ct := K } δ1) : forC g b xs δ E u := by
  refine for_plain as d hx (fun r δ => ∃ pre, as = pre ++ r ∧ P pre δ) ⟨[], rfl, h⟩ ?_ ?_
  · rintro δ ⟨pre, e, p⟩
    rw [List.append_nil] at e
    exact h0 δ (by rw [e]; exact p)
  · rintro a r δ ⟨pre, e, p⟩ K B T hK
    exact hs pre a r δ e p K B T fun δ' p' => hK δ' ⟨pre ++ [a], by rw [e]; simp, p'⟩
structure KB (ks : List (List Int)) (bx : List Int) : Prop where
  l4 : ks.length ≤ 4
  l0 : 0 < bx.length
  lb : bx.length ≤ 4
  k : Kin ks bx
  b : ∀ x ∈ bx, 1 ≤ x
  v : vol bx ≤ 20
/-- what is known when all bricks with the first cells up to i are laid -/
structure KnOk (ms : List Nat) (V i N : Nat) (l : List (Nat × Nat)) : Prop where
  nd : (keysN l).Nodup
  lt : ∀ p ∈ l, p.1 < 2 ^ V
  lo : ∀ p ∈ l, ∀ j, j < i → p.1.testBit j = true
  way : wayT (fun m => nF ms ((2 ^ V - 1) ^^^ m)) l = N
end TW
set_option Elab.async false
set_option linter.all false
set_option maxRecDepth 100000
set_option maxHeartbeats 4000000
namespace TW
open PySem PySem.Spec PyProof.Rows L2 DL
section
variable {α : Type} [DecidableEq α]
/-- some of the parts, in order, make f -/
inductive Cov : List (α × Nat) → Nat → List α → Prop
  | nil : Cov [] 0 []
  | take {p m r f ch} : m &&& f = m → Cov r (f ^^^ m) ch → Cov ((p, m) :: r) f (p :: ch)
  | skip {p m r f ch} : Cov r f ch → Cov ((p, m) :: r) f ch
end
end TW
set_option Elab.async false
set_option linter.all false
set_option maxRecDepth 100000
set_option maxHeartbeats 4000000
namespace TW
open PySem PySem.Spec PyProof.Rows L2 DL
theorem gi_get {l : List Int} {i : Nat} (h : i < l.length) : gi l i = l[i] := by unfold gi; rw [List.getElem?_eq_getElem h]; rfl
/-- a filling that is drawn -/
structure Fd (ks : List (List Int)) (bx : List Int) (fl : List Pl1) : Prop where
  k4 : ks.length ≤ 4
  kk : ∀ b ∈ ks, b.length = bx.length ∧ In (10 ^ 12) b
  l0 : 0 < bx.length
  l4 : bx.length ≤ 4
  hb : ∀ x ∈ bx, 1 ≤ x
  hv : vol bx ≤ 400
  h : FL ks bx fl
section
variable {ks : List (List Int)} {bx : List Int} {fl : List Pl1}
theorem Fd.kin (d : Fd ks bx fl) : Kin ks bx := fun b hb => by
  obtain ⟨q1, q2⟩ := d.kk b hb
  exact ⟨q1, fun x hx => (q2 x hx).1⟩
theorem Fd.len (d : Fd ks bx fl) : fl.length ≤ 400 := by
  have := d.h.to0.lenV d.kin fun x hx => by have := d.hb x hx; omega
  have := d.hv
  omega
theorem Fd.side (d : Fd ks bx fl) {i : Nat} (hi : i < bx.length) : 1 ≤ gi bx i ∧ gi bx i ≤ 400 := ⟨d.hb _ (gi_mem hi), vol_side1 d.hb hi d.hv⟩
theorem Fd.at (d : Fd ks bx fl) {p : Pl1} (hp : p ∈ fl) : p.1 < ks.length ∧ p.2.length = bx.length ∧ (bxOf ks p.1).length = bx.length ∧ ∀ i, i < bx.length → 0 ≤ gi p.2 i ∧ gi p.2 i + gi (bxOf ks p.1) i ≤ gi bx i ∧ 1 ≤ gi (bxOf ks p.1) i := by
  obtain ⟨f1, f2, f3⟩ := d.h.fit p hp
  obtain ⟨k1, k2⟩ := kin_at d.kin f1
  exact ⟨f1, f2, k1, fun i hi => by
    have := f3 i hi
    have := k2 _ (gi_mem (show i < (bxOf ks p.1).length by omega))
    omega⟩
theorem Fd.cells (d : Fd ks bx fl) : CellsOk bx := .of d.hb (by have := d.hv; omega)
end
def metB (b c : List Int) (ax : Nat) (x : List Int) : Bool := (List.range x.length).all fun i => decide (i = ax) || (decide (gi c i ≤ gi x i) && decide (gi x i < gi c i + gi b i))
structure Line (ks : List (List Int)) (fl : List Pl1) (ax : Nat) (x : List Int) (W : List Pl1) : Prop where
  asc : W.Pairwise fun p q => gi p.2 ax < gi q.2 ax
  mem : ∀ p, p ∈ W ↔ p ∈ fl ∧ metB (bxOf ks p.1) p.2 ax x = true
theorem nodup_asc {ax : Nat} {W : List Pl1} (h : W.Pairwise fun p q => gi p.2 ax < gi q.2 ax) : W.Nodup := h.imp fun {a b} h e => by subst e; omega
theorem perm_of_mem : ∀ {l m : List Pl1}, l.Nodup → m.Nodup → (∀ x, x ∈ l ↔ x ∈ m) → l.Perm m
  | [], m, _, _, h => by
    cases m with
    | nil => exact .refl _
    | cons y m => have := (h y).mpr (by simp); cases this
  | x :: l, m, hl, hm, h => by
    obtain ⟨n1, n2⟩ := List.nodup_cons.mp hl
    have hx : x ∈ m := (h x).mp (by simp)
    refine List.Perm.trans ?_ (List.perm_cons_erase hx).symm
    refine .cons x (perm_of_mem n2 (hm.erase x) fun y => ?_)
    rw [hm.mem_erase_iff, ← h y, List.mem_cons]
    constructor
    · intro hy
      exact ⟨fun e => n1 (by rw [← e]; exact hy), .inr hy⟩
    · rintro ⟨h1, h2 | h2⟩
      · exact absurd h2 h1
      · exact h2
theorem Line.unique {ks : List (List Int)} {fl : List Pl1} {ax : Nat} {x : List Int} {W W' : List Pl1} (h : Line ks fl ax x W) (h' : Line ks fl ax x W') : W = W' :=
  (perm_of_mem (nodup_asc h.asc) (nodup_asc h'.asc) fun p => by rw [h.mem, h'.mem]).eq_of_pairwise (le := fun p q => gi p.2 ax < gi q.2 ax) (fun a b _ _ h1 h2 => by omega) h.asc h'.asc
section
variable {ks : List (List Int)} {bx : List Int} {fl : List Pl1} {ax : Nat} {x : List Int}
end
end TW
set_option Elab.async false
set_option linter.all false
set_option maxRecDepth 100000
set_option maxHeartbeats 4000000
namespace TW
open PySem PySem.Spec PyProof.Rows L2 DL
theorem lt_lx : ∀ {a b : List Int}, a.length = b.length → a < b → lx a b
  | [], [], _, h => absurd h (by simp)
  | [], _ :: _, h, _ => by simp at h
  | _ :: _, [], h, _ => by simp at h
  | x :: a, y :: b, hl, h => by
    rw [List.cons_lt_cons_iff] at h
    rcases h with h | ⟨rfl, h⟩
    · exact .inl h
    · exact .inr ⟨rfl, lt_lx (by simpa using hl) h⟩
theorem lt_iffK {j k : Nat} {a b : List Int} (hl : a.length = b.length) : W.dataLt (atK j a) (atK k b) = true ↔ j < k ∨ j = k ∧ lx a b := by
  by_cases e : j = k
  · subst e
    constructor
    · intro h
      refine .inr ⟨rfl, ?_⟩
      unfold atK at h
      have al : W.alike (tI a) (tI b) = true := by
        have := alike_ints hl
        unfold tI
        simpa [W.alike] using this
      rw [W.dataLt_pair (by simp [W.alike]) al, if_pos (by simp [PyData.eqv])] at h
      split at h
      · cases h
      · unfold tI at h
        rw [W.dataLt_tuple] at h
        have h : W.rowLt (lI a) (lI b) = true := h
        unfold lI at h
        rw [W.dataLt_ints] at h
        exact lt_lx hl (of_decide_eq_true h)
    · rintro (h | ⟨_, h⟩)
      · omega
      · exact lt_atK hl h
  · have al : W.alike (tI a) (tI b) = true := by
      have := alike_ints hl
      unfold tI
      simpa [W.alike] using this
    have ne : ¬ (PyData.eqv (.int (j : Int)) (.int (k : Int)) = true) := by
      simp only [PyData.eqv, beq_iff_eq]
      omega
    unfold atK
    rw [W.dataLt_pair (by simp [W.alike]) al, if_neg ne, W.dataLt_int]
    rw [decide_eq_true_eq]
    omega
def sawB (ks : List (List Int)) (fl : List Pl1) (ax : Nat) (z : Int) : Bool := fl.any fun p => decide (gi p.2 ax < z) && decide (z < gi p.2 ax + gi (bxOf ks p.1) ax)
theorem saw_no {ks : List (List Int)} {fl : List Pl1} {ax : Nat} {z : Int} : sawB ks fl ax z = false ↔ ∀ p ∈ fl, gi p.2 ax < z → gi p.2 ax + gi (bxOf ks p.1) ax ≤ z := by
  unfold sawB
  rw [List.any_eq_false]
  constructor
  · intro h p hp h1
    have := h p hp
    simp [h1] at this
    omega
  · intro h p hp h2
    rw [Bool.and_eq_true, decide_eq_true_eq, decide_eq_true_eq] at h2
    have := h p hp h2.1
    omega
def lowF (fl : List Pl1) (ax : Nat) (z : Int) : List Pl1 := fl.filter fun p => decide (gi p.2 ax < z)
def highF (fl : List Pl1) (ax : Nat) (z : Int) : List Pl1 := (fl.filter fun p => !decide (gi p.2 ax < z)).map (movA ax (-z))
section
variable {ks : List (List Int)} {bx : List Int} {fl : List Pl1} {ax : Nat} {z : Int}
theorem FL.low (d : Fd ks bx fl) (hax : ax < bx.length) (z0 : 1 ≤ z) (z1 : z < gi bx ax) (hs : sawB ks fl ax z = false) : FL ks (bx.set ax z) (lowF fl ax z) := by
  have hs := saw_no.mp hs
  have hlen : (bx.set ax z).length = bx.length := by simp
  refine ⟨fun p hp => ?_, List.Pairwise.filter _ d.h.asc, List.Pairwise.filter _ d.h.dis, fun c hc => ?_⟩
  · obtain ⟨hp, hz⟩ := List.mem_filter.mp hp
    have hz := of_decide_eq_true hz
    obtain ⟨f1, f2, f3, f4⟩ := d.at hp
    refine ⟨f1, by rw [hlen]; exact f2, fun i hi => ?_⟩
    rw [hlen] at hi
    have := f4 i hi
    have := hs p hp hz
    by_cases e : i = ax
    · subst e; rw [gi_set_eq hi]; omega
    · rw [gi_set_ne hi e]; omega
  · obtain ⟨cl, cm⟩ := (mem_cells _ _ rfl c).mp hc
    rw [hlen] at cl cm
    have cb : c ∈ cellsF bx := (mem_cells _ _ rfl c).mpr ⟨cl, fun i hi => by
      have := cm i hi
      by_cases e : i = ax
      · subst e; rw [gi_set_eq hi] at this; omega
      · rwa [gi_set_ne hi e] at this⟩
    obtain ⟨p, hp, hm⟩ := d.h.all c cb
    obtain ⟨f1, f2, f3, f4⟩ := d.at hp
    have m2 := ((mem_cov (by omega)).mp hm).2 ax (by omega)
    have cx := cm ax hax
    rw [gi_set_eq hax] at cx
    exact ⟨p, List.mem_filter.mpr ⟨hp, decide_eq_true (by omega)⟩, hm⟩
theorem FL.high (d : Fd ks bx fl) (hax : ax < bx.length) (z0 : 1 ≤ z) (z1 : z < gi bx ax) (hs : sawB ks fl ax z = false) : FL ks (bx.set ax (gi bx ax - z)) (highF fl ax z) := by
  have hs := saw_no.mp hs
  have hlen : (bx.set ax (gi bx ax - z)).length = bx.length := by simp
  have lem : ∀ {a b : List Int}, a.length = bx.length → b.length = bx.length → lx a b → lx (a.set ax (gi a ax + -z)) (b.set ax (gi b ax + -z)) := fun {a b} la lb h => by
    rw [lx_iff (by omega)] at h
    rw [lx_iff (by simp; omega)]
    obtain ⟨i, h1, h2, h3⟩ := h
    refine ⟨i, by simpa using h1, fun j hj => ?_, ?_⟩
    · have := h2 j hj
      by_cases e : j = ax
      · subst e; rw [gi_set_eq (by omega), gi_set_eq (by omega)]; omega
      · rw [gi_set_ne (by omega) e, gi_set_ne (by omega) e]; exact this
    · by_cases e : i = ax
      · subst e; rw [gi_set_eq (by omega), gi_set_eq (by omega)]; omega
      · rw [gi_set_ne (by omega) e, gi_set_ne (by omega) e]; exact h3
  refine ⟨fun p hp => ?_, ?_, ?_, fun c hc => ?_⟩
  · obtain ⟨r, hr, rfl⟩ := List.mem_map.mp hp
    obtain ⟨hr, hz⟩ := List.mem_filter.mp hr
    have hz : ¬ gi r.2 ax < z := by simpa using hz
    obtain ⟨f1, f2, f3, f4⟩ := d.at hr
    refine ⟨f1, by simpa [movA] using f2, fun i hi => ?_⟩
    rw [hlen] at hi
    have := f4 i hi
    show 0 ≤ gi (r.2.set ax (gi r.2 ax + -z)) i ∧ gi (r.2.set ax (gi r.2 ax + -z)) i + gi (bxOf ks r.1) i ≤ _
    by_cases e : i = ax
    · subst e; rw [gi_set_eq hi, gi_set_eq (by omega)]; omega
    · rw [gi_set_ne hi e, gi_set_ne (by omega) e]; omega
  · unfold highF
    rw [List.pairwise_map]
    refine (List.Pairwise.filter _ d.h.asc).imp_of_mem fun {p q} mp mq h => ?_
    obtain ⟨_, p2, _⟩ := d.at (List.mem_filter.mp mp).1
    obtain ⟨_, q2, _⟩ := d.at (List.mem_filter.mp mq).1
    rw [lt_iffK (by omega)] at h
    show W.dataLt (atK p.1 (p.2.set ax _)) (atK q.1 (q.2.set ax _)) = true
    rw [lt_iffK (by simp; omega)]
    rcases h with h | ⟨h1, h2⟩
    · exact .inl h
    · exact .inr ⟨h1, lem p2 q2 h2⟩
  · unfold highF
    rw [List.pairwise_map]
    refine (List.Pairwise.filter _ d.h.dis).imp_of_mem fun {p q} mp mq h c c1 c2 => ?_
    obtain ⟨_, p2, p3, _⟩ := d.at (List.mem_filter.mp mp).1
    obtain ⟨_, q2, q3, _⟩ := d.at (List.mem_filter.mp mq).1
    have c1 : c ∈ covF (bxOf ks p.1) (p.2.set ax (gi p.2 ax + -z)) := c1
    have c2 : c ∈ covF (bxOf ks q.1) (q.2.set ax (gi q.2 ax + -z)) := c2
    rw [cov_movA (by omega) (by omega)] at c1 c2
    exact h _ c1.2 c2.2
  · obtain ⟨cl, cm⟩ := (mem_cells _ _ rfl c).mp hc
    rw [hlen] at cl cm
    have cb : c.set ax (gi c ax + z) ∈ cellsF bx := (mem_cells _ _ rfl _).mpr ⟨by simpa using cl, fun i hi => by
      have := cm i hi
      by_cases e : i = ax
      · subst e; rw [gi_set_eq hi] at this; rw [gi_set_eq (by omega)]; omega
      · rw [gi_set_ne hi e] at this; rw [gi_set_ne (by omega) e]; exact this⟩
    obtain ⟨p, hp, hm⟩ := d.h.all _ cb
    obtain ⟨f1, f2, f3, f4⟩ := d.at hp
    have m2 := ((mem_cov (by omega)).mp hm).2 ax (by omega)
    rw [gi_set_eq (by omega)] at m2
    have cx := cm ax hax
    have hz : ¬ gi p.2 ax < z := fun h => by
      have := hs p hp h
      omega
    refine ⟨movA ax (-z) p, List.mem_map.mpr ⟨p, List.mem_filter.mpr ⟨hp, by simpa using hz⟩, rfl⟩, ?_⟩
    show c ∈ covF (bxOf ks p.1) (p.2.set ax (gi p.2 ax + -z))
    rw [cov_movA (by omega) (by omega), show gi c ax - -z = gi c ax + z by omega]
    exact ⟨by omega, hm⟩
theorem vol_setle (d : Fd ks bx fl) (hax : ax < bx.length) {y : Int} (y0 : 1 ≤ y) (y1 : y ≤ gi bx ax) : vol (bx.set ax y) ≤ 400 := by
  have := (vol_le0 (a := bx.set ax y) (b := bx) (by simp) fun i hi => by
    have := d.side hi
    by_cases e : i = ax
    · subst e; rw [gi_set_eq hi]; omega
    · rw [gi_set_ne hi e]; omega).2
  have := d.hv
  omega
theorem Fd.box (d : Fd ks bx fl) {fl' : List Pl1} {y : Int} (y0 : 1 ≤ y) (hv : vol (bx.set ax y) ≤ 400) (h : FL ks (bx.set ax y) fl') : Fd ks (bx.set ax y) fl' :=
  ⟨d.k4, fun b hb => by simpa using d.kk b hb, by simpa using d.l0, by simpa using d.l4, fun x hx => by
    rcases List.mem_or_eq_of_mem_set hx with m | m
    · exact d.hb x m
    · omega, hv, h⟩
theorem Fd.low (d : Fd ks bx fl) (hax : ax < bx.length) (z0 : 1 ≤ z) (z1 : z < gi bx ax) (hs : sawB ks fl ax z = false) : Fd ks (bx.set ax z) (lowF fl ax z) :=
  d.box z0 (vol_setle d hax z0 (by omega)) (FL.low d hax z0 z1 hs)
theorem Fd.high (d : Fd ks bx fl) (hax : ax < bx.length) (z0 : 1 ≤ z) (z1 : z < gi bx ax) (hs : sawB ks fl ax z = false) : Fd ks (bx.set ax (gi bx ax - z)) (highF fl ax z) :=
  d.box (by omega) (vol_setle d hax (by omega) (by omega)) (FL.high d hax z0 z1 hs)
end
end TW
set_option Elab.async false
set_option linter.all false
set_option maxRecDepth 100000
set_option maxHeartbeats 4000000
namespace TW
open PySem PySem.Spec PyProof.Rows L2 DL
theorem lx_irr : ∀ {a : List Int}, ¬ lx a a
  | [], h => h
  | x :: a, h => by
    rcases h with h | ⟨_, h⟩
    · omega
    · exact lx_irr h
theorem lx_trans : ∀ {a b c : List Int}, lx a b → lx b c → lx a c
  | [], _, _, h, _ => absurd h (by simp [lx])
  | _ :: _, [], _, h, _ => absurd h (by simp [lx])
  | _ :: _, _ :: _, [], _, h => absurd h (by simp [lx])
  | x :: a, y :: b, z :: c, h1, h2 => by
    rcases h1 with h1 | ⟨e1, h1⟩
    · rcases h2 with h2 | ⟨e2, h2⟩
      · exact .inl (by omega)
      · exact .inl (by omega)
    · rcases h2 with h2 | ⟨e2, h2⟩
      · exact .inl (by omega)
      · exact .inr ⟨by omega, lx_trans h1 h2⟩
end TW
set_option Elab.async false
set_option linter.all false
set_option maxRecDepth 100000
set_option maxHeartbeats 4000000
namespace TW
open PySem PySem.Spec PyProof.Rows L2 DL
/-- .. to so many bricks -/
inductive Chop (ks : List (List Int)) : List Int → Int → Prop
  | one {b : List Int} (h : b ∈ ks) : Chop ks b 1
  | cut {b : List Int} {ax : Nat} {k m1 m2 : Int} (hx : ax < b.length) (h1 : 1 ≤ k) (h2 : k < gi b ax) (c1 : Chop ks (b.set ax k) m1) (c2 : Chop ks (b.set ax (gi b ax - k)) m2) : Chop ks b (m1 + m2)
def Can (ks : List (List Int)) (b : List Int) : Prop := ∃ m, Chop ks b m
def Lst (ks : List (List Int)) (b : List Int) (m : Int) : Prop := Chop ks b m ∧ ∀ m', Chop ks b m' → m ≤ m'
open Classical in
noncomputable def canB (ks : List (List Int)) (b : List Int) : Bool := decide (Can ks b)
theorem canB_iff {ks : List (List Int)} {b : List Int} : canB ks b = true ↔ Can ks b := by unfold canB; simp
section
variable {ks : List (List Int)} {b : List Int} {m n : Int}
theorem Chop.pos (h : Chop ks b m) : 1 ≤ m := by
  induction h with
  | one => exact Int.le_refl _
  | cut _ _ _ _ _ i1 i2 => omega
theorem Chop.len {k : Nat} (hk : ∀ q ∈ ks, q.length = k) (h : Chop ks b m) : b.length = k := by
  induction h with
  | one h => exact hk _ h
  | cut _ _ _ _ _ i1 _ => simpa using i1
theorem lst_of (h : Can ks b) : ∃ m, Lst ks b m := by
  obtain ⟨m, hm⟩ := h
  have p := hm.pos
  have : ∀ (N : Nat) (m : Int), m.toNat ≤ N → Chop ks b m → ∃ m, Lst ks b m := by
    intro N
    induction N with
    | zero => intro m h1 h2; have := h2.pos; omega
    | succ N ih =>
      intro m h1 h2
      by_cases c : ∃ m', Chop ks b m' ∧ m' < m
      · obtain ⟨m', h3, h4⟩ := c
        have := h3.pos
        exact ih m' (by omega) h3
      · exact ⟨m, h2, fun m' h3 => Int.not_lt.mp fun h4 => c ⟨m', h3, h4⟩⟩
  exact this _ m (Nat.le_refl _) hm
theorem Lst.uniq (h : Lst ks b m) (h' : Lst ks b n) : m = n := Int.le_antisymm (h.2 _ h'.1) (h'.2 _ h.1)
theorem Lst.can (h : Lst ks b m) : Can ks b := ⟨m, h.1⟩
/-- if all kinds have one volume -/
theorem Chop.vol {v : Int} (hk : ∀ q ∈ ks, TW.vol q = v) (h : Chop ks b m) : TW.vol b = v * m := by
  induction h with
  | one h => rw [hk _ h]; omega
  | @cut b ax k m1 m2 hx _ _ _ _ i1 i2 =>
    have := vol_add (l := b) (i := ax) k (gi b ax - k) hx
    rw [show k + (gi b ax - k) = gi b ax by omega, i1, i2] at this
    have e : b.set ax (gi b ax) = b := by
      refine List.ext_getElem? fun i => ?_
      rw [List.getElem?_set]
      split
      · rename_i e; subst e; rw [gi_at hx]
      · rfl
    rw [e] at this
    rw [this, Int.mul_add]
end
inductive Wy where
  | one (k : Nat)
  | cut (ax : Nat) (lo hi : List Int)
def Wy.d : Wy → PyData
  | .one k => .tuple [.int (k : Int)]
  | .cut ax lo hi => .tuple [.int (ax : Int), tI lo, tI hi]
def wyD (p : Int × Wy) : PyData := .tuple [.int p.1, p.2.d]
def WyOk (ks : List (List Int)) (own : List Int) (m : Int) : Wy → Prop
  | .one k => k < ks.length ∧ bxOf ks k = own ∧ m = 1
  | .cut ax lo hi => ax < own.length ∧ ∃ k : Int, 1 ≤ k ∧ k < gi own ax ∧ lo = own.set ax k ∧ hi = own.set ax (gi own ax - k) ∧ ∃ m1 m2, Lst ks lo m1 ∧ Lst ks hi m2 ∧ m = m1 + m2
theorem WyOk.chop {ks : List (List Int)} {own : List Int} {m : Int} : ∀ {w : Wy}, WyOk ks own m w → Chop ks own m
  | .one k, ⟨h1, h2, h3⟩ => by
    subst h3
    refine .one ?_
    rw [← h2]
    exact bx_mem h1
  | .cut ax lo hi, ⟨hx, k, k1, k2, e1, e2, m1, m2, l1, l2, e⟩ => by
    subst e1 e2 e
    exact .cut hx k1 k2 l1.1 l2.1
/-- ways that were found: along the axes below ax, and along ax with a part below k -/
structure Ways (ks : List (List Int)) (own : List Int) (L : List (Int × Wy)) (ax : Nat) (k : Int) : Prop where
  ok : ∀ p ∈ L, WyOk ks own p.1 p.2
  one : own ∈ ks → ∃ p ∈ L, p.1 = 1
  cut : ∀ (a : Nat) (q m1 m2 : Int), a < own.length → 1 ≤ q → 2 * q ≤ gi own a → (a < ax ∨ a = ax ∧ q < k) → Lst ks (own.set a q) m1 → Lst ks (own.set a (gi own a - q)) m2 → ∃ p ∈ L, p.1 = m1 + m2
theorem Ways.fin {ks : List (List Int)} {own : List Int} {L : List (Int × Wy)} {ax : Nat} {k : Int} (h : Ways ks own L ax k) (hx : own.length ≤ ax) : ∀ m, Chop ks own m → ∃ p ∈ L, p.1 ≤ m := by
  intro m hm
  cases hm with
  | one q =>
    obtain ⟨p, hp, e⟩ := h.one q
    exact ⟨p, hp, by omega⟩
  | @cut _ a q m1 m2 ha h1 h2 c1 c2 =>
    obtain ⟨l1, g1⟩ := lst_of ⟨_, c1⟩
    obtain ⟨l2, g2⟩ := lst_of ⟨_, c2⟩
    have b1 := g1.2 _ c1
    have b2 := g2.2 _ c2
    by_cases c : 2 * q ≤ gi own a
    · obtain ⟨p, hp, e⟩ := h.cut a q l1 l2 ha h1 c (.inl (by omega)) g1 g2
      exact ⟨p, hp, by omega⟩
    · obtain ⟨p, hp, e⟩ := h.cut a (gi own a - q) l2 l1 ha (by omega) (by omega) (.inl (by omega)) g2 (by rw [show gi own a - (gi own a - q) = q by omega]; exact g1)
      exact ⟨p, hp, by omega⟩
theorem Ways.nil {ks : List (List Int)} {own : List Int} {ax : Nat} {k : Int} (h : Ways ks own [] ax k) (hx : own.length ≤ ax) : ¬ Can ks own := fun ⟨m, hm⟩ => by
  obtain ⟨p, hp, _⟩ := h.fin hx m hm
  cases hp
theorem Ways.least {ks : List (List Int)} {own : List Int} {L : List (Int × Wy)} {ax : Nat} {k : Int} (h : Ways ks own L ax k) (hx : own.length ≤ ax) {p : Int × Wy} (hp : p ∈ L) (hm : ∀ q ∈ L, p.1 ≤ q.1) : Lst ks own p.1 :=
  ⟨(h.ok p hp).chop, fun m hm' => by
    obtain ⟨q, hq, e⟩ := h.fin hx m hm'
    exact Int.le_trans (hm q hq) e⟩
/-- the boxes that were gone through, those that can be cut down with the least number and a way -/
structure Best (ks : List (List Int)) (pre : List (List Int)) (kvs : KVs) : Prop where
  keys : kvs.map (·.1) = pre.filter (canB ks)
  val : ∀ p ∈ kvs, ∃ m w, p.2 = wyD (m, w) ∧ Lst ks p.1 m ∧ WyOk ks p.1 m w
theorem valD_mem {kvs : KVs} {b : List Int} {d : PyData} (h : valD kvs b = some d) : (b, d) ∈ kvs := by
  unfold valD at h
  cases e : kvs.find? (fun p => decide (p.1 = b)) with
  | none => rw [e] at h; cases h
  | some p =>
    rw [e] at h
    have h1 := List.mem_of_find?_eq_some e
    have h2 : p.1 = b := by simpa using List.find?_some e
    cases h
    rw [← h2]
    exact h1
theorem valD_keys (kvs : KVs) (b : List Int) : (valD kvs b).isSome = decide (b ∈ kvs.map (·.1)) := by
  rw [valD_any, Bool.eq_iff_iff, List.any_eq_true, decide_eq_true_eq, List.mem_map]
  exact ⟨fun ⟨p, h1, h2⟩ => ⟨p, h1, by simpa using h2⟩, fun ⟨p, h1, h2⟩ => ⟨p, h1, by simpa using h2⟩⟩
theorem putD_new {kvs : KVs} {b : List Int} {d : PyData} (h : b ∉ kvs.map (·.1)) : putD kvs b d = kvs ++ [(b, d)] := by
  unfold putD
  rw [if_neg]
  rw [← valD_any, valD_keys]
  simpa using h
section
variable {ks pre : List (List Int)} {kvs : KVs} {b : List Int}
theorem Best.has (h : Best ks pre kvs) (hb : b ∈ pre) : (valD kvs b).isSome = canB ks b := by
  rw [valD_keys, h.keys, Bool.eq_iff_iff, decide_eq_true_eq, List.mem_filter]
  exact ⟨fun q => q.2, fun q => ⟨hb, q⟩⟩
theorem Best.get (h : Best ks pre kvs) {d : PyData} (hd : valD kvs b = some d) : ∃ m w, d = wyD (m, w) ∧ Lst ks b m ∧ WyOk ks b m w := h.val _ (valD_mem hd)
theorem Best.at (h : Best ks pre kvs) (hb : b ∈ pre) : (valD kvs b = none ∧ ¬ Can ks b) ∨ ∃ m w, valD kvs b = some (wyD (m, w)) ∧ Lst ks b m ∧ WyOk ks b m w := by
  cases e : valD kvs b with
  | none =>
    refine .inl ⟨rfl, fun c => ?_⟩
    have := h.has hb
    rw [e, canB_iff.mpr c] at this
    cases this
  | some d =>
    obtain ⟨m, w, rfl, q⟩ := h.get e
    exact .inr ⟨m, w, rfl, q⟩
theorem Best.skip (h : Best ks pre kvs) (n : ¬ Can ks b) : Best ks (pre ++ [b]) kvs := by
  refine ⟨?_, h.val⟩
  rw [List.filter_append, ← h.keys]
  have : canB ks b = false := by
    cases e : canB ks b with
    | false => rfl
    | true => exact absurd (canB_iff.mp e) n
  simp [this]
theorem Best.put (h : Best ks pre kvs) (nb : b ∉ pre) {m : Int} {w : Wy} (hm : Lst ks b m) (hw : WyOk ks b m w) : Best ks (pre ++ [b]) (putD kvs b (wyD (m, w))) := by
  rw [putD_new (by rw [h.keys]; exact fun q => nb (List.mem_filter.mp q).1)]
  refine ⟨?_, fun p hp => ?_⟩
  · rw [List.map_append, h.keys, List.filter_append]
    simp [canB_iff.mpr hm.can]
  · rcases List.mem_append.mp hp with hp | hp
    · exact h.val p hp
    · rw [List.mem_singleton.mp hp]
      exact ⟨m, w, rfl, hm, hw⟩
end
theorem lx_one : ∀ {a b : List Int}, lx a b → lx (upOne a) (upOne b)
  | [], _, h => by simp [lx] at h
  | _ :: _, [], h => by simp [lx] at h
  | x :: a, y :: b, h => by
    rcases h with h | ⟨rfl, h⟩
    · exact .inl (by show 1 + x < 1 + y; omega)
    · exact .inr ⟨rfl, lx_one h⟩
theorem up_sorted (bx : List Int) : (upF bx).Pairwise lx := by
  rw [up_cells, List.pairwise_map, cells_eq]
  exact (cells_sorted bx).imp fun h => lx_one h
theorem lx_set : ∀ {b : List Int} {ax : Nat} {k : Int}, ax < b.length → k < gi b ax → lx (b.set ax k) b
  | [], _, _, h, _ => by simp at h
  | x :: b, 0, k, _, h => .inl h
  | x :: b, ax + 1, k, h, h2 => .inr ⟨rfl, lx_set (by simpa using h) h2⟩
theorem before {l pre rest : List (List Int)} {own b : List Int} (hs : l.Pairwise lx) (e : pre ++ own :: rest = l) (hb : b ∈ l) (h : lx b own) : b ∈ pre := by
  subst e
  rw [List.pairwise_append, List.pairwise_cons] at hs
  rcases List.mem_append.mp hb with q | q
  · exact q
  · rcases List.mem_cons.mp q with rfl | q
    · exact absurd h lx_irr
    · exact absurd (lx_trans h (hs.2.1.1 b q)) lx_irr
theorem set_up {bx b : List Int} {ax : Nat} {k : Int} (hb : b ∈ upF bx) (h1 : 1 ≤ k) (h2 : k ≤ gi b ax) : b.set ax k ∈ upF bx := by
  obtain ⟨l, h⟩ := mem_up.mp hb
  refine mem_up.mpr ⟨by simpa using l, fun i hi => ?_⟩
  have := h i hi
  rw [gi_set (by omega)]
  split
  · rename_i e; subst e; omega
  · exact this
theorem up_nodup (bx : List Int) : (upF bx).Nodup := (up_sorted bx).imp fun h e => by subst e; exact lx_irr h
section
variable {ks : List (List Int)} {own : List Int} {L : List (Int × Wy)} {ax : Nat} {k : Int}
theorem Ways.next (h : Ways ks own L ax k) (n : ¬ (Can ks (own.set ax k) ∧ Can ks (own.set ax (gi own ax - k)))) : Ways ks own L ax (k + 1) :=
  ⟨h.ok, h.one, fun a q m1 m2 ha q1 q2 q3 g1 g2 => by
    by_cases e : a = ax ∧ q = k
    · obtain ⟨rfl, rfl⟩ := e
      exact absurd ⟨g1.can, g2.can⟩ n
    · exact h.cut a q m1 m2 ha q1 q2 (by omega) g1 g2⟩
theorem Ways.add (h : Ways ks own L ax k) (hx : ax < own.length) (k1 : 1 ≤ k) (k2 : k < gi own ax) {m1 m2 : Int} (l1 : Lst ks (own.set ax k) m1) (l2 : Lst ks (own.set ax (gi own ax - k)) m2) : Ways ks own (L ++ [(m1 + m2, .cut ax (own.set ax k) (own.set ax (gi own ax - k)))]) ax (k + 1) := by
  refine ⟨fun p hp => ?_, fun ho => ?_, fun a q n1 n2 ha q1 q2 q3 g1 g2 => ?_⟩
  · rcases List.mem_append.mp hp with hp | hp
    · exact h.ok p hp
    · rw [List.mem_singleton.mp hp]
      exact ⟨hx, k, k1, k2, rfl, rfl, m1, m2, l1, l2, rfl⟩
  · obtain ⟨p, hp, e⟩ := h.one ho
    exact ⟨p, List.mem_append_left _ hp, e⟩
  · by_cases e : a = ax ∧ q = k
    · obtain ⟨rfl, rfl⟩ := e
      refine ⟨_, List.mem_append_right _ (List.mem_singleton.mpr rfl), ?_⟩
      show m1 + m2 = n1 + n2
      rw [l1.uniq g1, l2.uniq g2]
    · obtain ⟨p, hp, e⟩ := h.cut a q n1 n2 ha q1 q2 (by omega) g1 g2
      exact ⟨p, List.mem_append_left _ hp, e⟩
theorem Ways.turn (h : Ways ks own L ax k) (hk : gi own ax < 2 * k) : Ways ks own L (ax + 1) 1 :=
  ⟨h.ok, h.one, fun a q m1 m2 ha q1 q2 q3 g1 g2 => h.cut a q m1 m2 ha q1 q2 (by
    rcases Nat.lt_or_ge a ax with c | c
    · exact .inl c
    · have : a = ax := by omega
      subst this
      exact .inr ⟨rfl, by omega⟩) g1 g2⟩
end
def onesW (ks : List (List Int)) (own : List Int) : List (Int × Wy) := (ks.zipIdx.filter fun p => decide (p.1 = own)).map fun p => ((1, .one p.2) : Int × Wy)
def numC : PyData → Int
  | .tuple (.int m :: _) => m
  | _ => 0
def cutW (kvs : KVs) (own : List Int) (ax : Nat) (k : Int) : List (Int × Wy) :=
  match valD kvs (own.set ax k), valD kvs (own.set ax (gi own ax - k)) with
  | some d, some e => [(numC d + numC e, .cut ax (own.set ax k) (own.set ax (gi own ax - k)))]
  | _, _ => []
def axW (kvs : KVs) (own : List Int) (ax : Nat) (m : Nat) : List (Int × Wy) := (List.range m).flatMap fun (i : Nat) => cutW kvs own ax (1 + (i : Int))
def waysF (ks : List (List Int)) (kvs : KVs) (own : List Int) (n : Nat) : List (Int × Wy) := onesW ks own ++ (List.range n).flatMap fun ax => axW kvs own ax (gi own ax / 2).toNat
theorem axW_succ (kvs : KVs) (own : List Int) (ax m : Nat) : axW kvs own ax (m + 1) = axW kvs own ax m ++ cutW kvs own ax (1 + (m : Int)) := by
  unfold axW
  rw [List.range_succ, List.flatMap_append]
  simp
theorem waysF_succ (ks : List (List Int)) (kvs : KVs) (own : List Int) (n : Nat) : waysF ks kvs own (n + 1) = waysF ks kvs own n ++ axW kvs own n (gi own n / 2).toNat := by
  unfold waysF
  rw [List.range_succ, List.flatMap_append, ← List.append_assoc]
  simp
theorem cutW_no1 {kvs : KVs} {own : List Int} {ax : Nat} {k : Int} (h : valD kvs (own.set ax k) = none) : cutW kvs own ax k = [] := by unfold cutW; rw [h]
theorem cutW_no2 {kvs : KVs} {own : List Int} {ax : Nat} {k : Int} (h : valD kvs (own.set ax (gi own ax - k)) = none) : cutW kvs own ax k = [] := by
  unfold cutW
  rw [h]
  cases valD kvs (own.set ax k) <;> rfl
theorem cutW_two {kvs : KVs} {own : List Int} {ax : Nat} {k m1 m2 : Int} {w1 w2 : Wy} (h1 : valD kvs (own.set ax k) = some (wyD (m1, w1))) (h2 : valD kvs (own.set ax (gi own ax - k)) = some (wyD (m2, w2))) : cutW kvs own ax k = [(m1 + m2, .cut ax (own.set ax k) (own.set ax (gi own ax - k)))] := by
  unfold cutW
  rw [h1, h2]
  rfl
/-- the first of the least -/
def minC : List (Int × Wy) → Option (Int × Wy)
  | [] => none
  | p :: ps => match minC ps with
    | none => some p
    | some q => if p.1 ≤ q.1 then some p else some q
theorem minC_some : ∀ {L : List (Int × Wy)} {i : Nat} {p : Int × Wy}, L[i]? = some p → (∀ j q, L[j]? = some q → p.1 ≤ q.1 ∧ (j < i → p.1 < q.1)) → minC L = some p
  | [], i, p, h, _ => by simp at h
  | x :: L, 0, p, h, hm => by
    cases (show some x = some p from h)
    unfold minC
    cases e : minC L with
    | none => rfl
    | some q =>
      have : q ∈ L := by
        have : ∀ {L : List (Int × Wy)} {q : Int × Wy}, minC L = some q → q ∈ L := by
          intro L
          induction L with
          | nil => intro q h; cases h
          | cons y L ih =>
            intro q h
            unfold minC at h
            cases e : minC L with
            | none => rw [e] at h; cases h; exact List.mem_cons_self ..
            | some z =>
              rw [e] at h
              simp only at h
              split at h
              · cases h; exact List.mem_cons_self ..
              · cases h; exact List.mem_cons_of_mem _ (ih e)
        exact this e
      obtain ⟨j, hj, e2⟩ := List.mem_iff_getElem.mp this
      have := (hm (j + 1) q (by rw [List.getElem?_cons_succ, List.getElem?_eq_getElem hj, e2])).1
      simp only
      rw [if_pos this]
  | x :: L, i + 1, p, h, hm => by
    have h' : L[i]? = some p := h
    have ih := minC_some h' fun j q hq => by
      obtain ⟨a, b⟩ := hm (j + 1) q hq
      exact ⟨a, fun hj => b (by omega)⟩
    have := (hm 0 x rfl).2 (by omega)
    unfold minC
    rw [ih]
    simp only
    rw [if_neg (by omega)]
def stepF (ks : List (List Int)) (kvs : KVs) (own : List Int) : KVs := match minC (waysF ks kvs own own.length) with
  | none => kvs
  | some p => putD kvs own (wyD p)
def bestF (ks : List (List Int)) (bs : List (List Int)) : KVs := bs.foldl (stepF ks) []
theorem bestF_snoc (ks : List (List Int)) (bs : List (List Int)) (own : List Int) : bestF ks (bs ++ [own]) = stepF ks (bestF ks bs) own := by
  unfold bestF
  rw [List.foldl_append]
  rfl
def numsOf (P : List (List Int)) : KVs := P.zipIdx.map fun q => (q.1, .int (q.2 : Int))
def ixC (P : List (List Int)) (b : List Int) : Nat := match valD (numsOf P) b with
  | some (.int i) => i.toNat
  | _ => 0
/-- a row of the plan that goes through all -/
def rowC (P : List (List Int)) : PyData → Row
  | .tuple [_, .tuple [.int k]] => .one k.toNat
  | .tuple [_, .tuple [.int ax, .tuple lo, .tuple hi]] => .two ax.toNat (ixC P (lo.map fun d => match d with | .int i => i | _ => 0)) (ixC P (hi.map fun d => match d with | .int i => i | _ => 0))
  | _ => .one 0
def rowsC : List (List Int) → KVs → List Row
  | _, [] => []
  | P, p :: ps => rowC (P ++ [p.1]) p.2 :: rowsC (P ++ [p.1]) ps
theorem rowsC_snoc : ∀ (xs : KVs) (P : List (List Int)) (p : List Int × PyData), rowsC P (xs ++ [p]) = rowsC P xs ++ [rowC (P ++ xs.map (·.1) ++ [p.1]) p.2]
  | [], P, p => by simp [rowsC]
  | x :: xs, P, p => by
    show rowC (P ++ [x.1]) x.2 :: rowsC (P ++ [x.1]) (xs ++ [p]) = _
    rw [rowsC_snoc xs]
    simp [rowsC]
theorem rowC_one (P : List (List Int)) (m : Int) (k : Nat) : rowC P (wyD (m, .one k)) = .one k := by
  simp [rowC, wyD, Wy.d]
theorem rowC_cut (P : List (List Int)) (m : Int) (ax : Nat) (lo hi : List Int) : rowC P (wyD (m, .cut ax lo hi)) = .two ax (ixC P lo) (ixC P hi) := by
  have e : ∀ l : List Int, (lI l).map (fun d => match d with | .int i => i | _ => 0) = l := fun l => by
    unfold lI
    rw [List.map_map]
    exact List.map_id' l
  simp only [rowC, wyD, Wy.d]
  rw [e, e]
  simp
def fewR (ks : List (List Int)) (bx : List Int) : List Row := rowsC [] (bestF ks (upF bx))
end TW
set_option Elab.async false
set_option linter.all false
set_option maxRecDepth 100000
set_option maxHeartbeats 4000000
namespace TW
open PySem PySem.Spec PyProof.Rows L2 DL
structure Rows (n : Nat) (ks B : List (List Int)) (rs : List Row) : Prop where
  bx : boxesR ks [] rs = B
  val : ValidR ks n [] rs
  sum : ∀ j, j < B.length → Lst ks (bxOf B j) (bxOf (cntsR ks.length [] rs) j).sum
theorem sum_one {kn k : Nat} (h : k < kn) : ((List.range kn).map fun q => if q = k then (1 : Int) else 0).sum = 1 := by
  induction kn with
  | zero => omega
  | succ m ih =>
    rw [List.range_succ, List.map_append, List.sum_append]
    by_cases e : k = m
    · subst e
      have : ((List.range k).map fun q => if q = k then (1 : Int) else 0) = (List.range k).map fun _ => 0 := List.map_congr_left fun q hq => by
        rw [if_neg]; have := List.mem_range.mp hq; omega
      rw [this]
      have z : ∀ l : List Nat, (l.map fun _ => (0 : Int)).sum = 0 := fun l => by induction l <;> simp_all
      rw [z]; simp
    · rw [ih (by omega)]
      simp; omega
theorem sum_gi : ∀ {a : List Int} {kn : Nat}, a.length = kn → ((List.range kn).map fun q => gi a q).sum = a.sum
  | a, kn, h => by
    have : (List.range kn).map (fun q => gi a q) = a := by
      refine List.ext_getElem (by simp [h]) fun i h1 h2 => ?_
      simp [gi_get h2]
    rw [this]
theorem sum_two {a b : List Int} {kn : Nat} (ha : a.length = kn) (hb : b.length = kn) : ((List.range kn).map fun q => gi a q + gi b q).sum = a.sum + b.sum := by
  rw [← sum_gi ha, ← sum_gi hb]
  generalize List.range kn = l
  induction l with
  | nil => rfl
  | cons x l ih => simp only [List.map_cons, List.sum_cons, ih]; omega
theorem bx_app {bs : List (List Int)} {b : List Int} {j : Nat} : bxOf (bs ++ [b]) j = if j < bs.length then bxOf bs j else if j = bs.length then b else [] := by
  unfold bxOf
  rw [List.getD_eq_getElem?_getD, List.getD_eq_getElem?_getD]
  by_cases c : j < bs.length
  · rw [if_pos c, List.getElem?_append_left c]
  · rw [if_neg c, List.getElem?_append_right (by omega)]
    by_cases e : j = bs.length
    · subst e; simp
    · rw [if_neg e, List.getElem?_eq_none (by simp; omega)]; rfl
theorem Rows.nil {n : Nat} {ks : List (List Int)} : Rows n ks [] [] := ⟨rfl, trivial, fun j h => by simp at h⟩
theorem Rows.len {n : Nat} {ks B : List (List Int)} {rs : List Row} (h : Rows n ks B rs) : rs.length = B.length := by
  have := boxesR_len ks rs []
  rw [h.bx] at this
  simpa using this.symm
theorem Rows.snoc {n : Nat} {ks B : List (List Int)} {rs : List Row} {r : Row} {own : List Int} (h : Rows n ks B rs) (hg : RowGood ks.length n B r) (hb : boxR ks B r = own) (hs : Lst ks own (cntR ks.length (cntsR ks.length [] rs) r).sum) : Rows n ks (B ++ [own]) (rs ++ [r]) := by
  have hl := h.len
  have cl := cntsR_len ks.length rs []
  refine ⟨?_, ?_, fun j hj => ?_⟩
  · rw [boxesR_app, h.bx]
    show B ++ [boxR ks B r] = _
    rw [hb]
  · rw [valid_app, h.bx]
    exact ⟨h.val, hg, trivial⟩
  · rw [cntsR_app]
    show Lst ks _ (bxOf (cntsR ks.length [] rs ++ [cntR ks.length (cntsR ks.length [] rs) r]) j).sum
    rw [bx_app, bx_app]
    have e : (cntsR ks.length [] rs).length = B.length := by rw [cl]; simp [hl]
    rw [e]
    by_cases c : j < B.length
    · rw [if_pos c, if_pos c]
      exact h.sum j c
    · have : j = B.length := by simp at hj; omega
      rw [if_neg c, if_neg c, if_pos this, if_pos this]
      exact hs
theorem Rows.one {n : Nat} {ks B : List (List Int)} {rs : List Row} {k : Nat} {own : List Int} (h : Rows n ks B rs) (hk : k < ks.length) (hb : bxOf ks k = own) (hs : Lst ks own 1) : Rows n ks (B ++ [own]) (rs ++ [.one k]) := by
  refine h.snoc ⟨hk, fun _ _ _ e => by cases e⟩ hb ?_
  show Lst ks own ((List.range ks.length).map fun q => if q = k then (1 : Int) else 0).sum
  rw [sum_one hk]
  exact hs
theorem Rows.two {n : Nat} {ks B : List (List Int)} {rs : List Row} {ax i j : Nat} {k m1 m2 : Int} {own : List Int} (h : Rows n ks B rs) (hl : own.length = n) (hx : ax < n) (hi : i < B.length) (hj : j < B.length) (e1 : bxOf B i = own.set ax k) (e2 : bxOf B j = own.set ax (gi own ax - k))
    (l1 : Lst ks (own.set ax k) m1) (l2 : Lst ks (own.set ax (gi own ax - k)) m2) (hs : Lst ks own (m1 + m2)) : Rows n ks (B ++ [own]) (rs ++ [.two ax i j]) := by
  have gs : ∀ (y : Int) (q : Nat), q < own.length → gi (own.set ax y) q = if q = ax then y else gi own q := fun y q hq => gi_set hq
  refine h.snoc ⟨⟨hx, hi, hj⟩, fun a b c e => ?_⟩ ?_ ?_
  · cases e
    rw [e1, e2]
    refine agree_iff.mpr fun q hq ne => ?_
    rw [List.length_set] at hq
    rw [gs _ _ hq, gs _ _ hq, if_neg ne, if_neg ne]
  · show putF (bxOf B i) (bxOf B j) ax = own
    rw [e1, e2]
    unfold putF
    rw [gs _ _ (by omega), gs _ _ (by omega), if_pos rfl, if_pos rfl, List.set_set]
    refine gi_extL (by simp) fun q hq => ?_
    rw [List.length_set] at hq
    rw [gs _ _ hq]
    split
    · rename_i e; subst e; omega
    · rfl
  · have each := cntsR_each ks.length rs [] (by simp)
    have cl := cntsR_len ks.length rs []
    have e : (cntsR ks.length [] rs).length = B.length := by rw [cl]; simp [h.len]
    have a1 := h.sum i hi
    have a2 := h.sum j hj
    rw [e1] at a1
    rw [e2] at a2
    show Lst ks own ((List.range ks.length).map fun q => gi (bxOf (cntsR ks.length [] rs) i) q + gi (bxOf (cntsR ks.length [] rs) j) q).sum
    rw [sum_two (bx_len' each (by omega)) (bx_len' each (by omega)), a1.uniq l1, a2.uniq l2]
    exact hs
/-- which place a thing has -/
theorem sorted_last {l : List (List Int)} {x : List Int} (hs : l.Pairwise lx) (hx : x ∈ l) (h : ∀ y ∈ l, ¬ lx x y) : 0 < l.length ∧ bxOf l (l.length - 1) = x := by
  obtain ⟨i, hi, e⟩ := List.mem_iff_getElem.mp hx
  refine ⟨by omega, ?_⟩
  have hl : l.length - 1 < l.length := by omega
  have g : bxOf l (l.length - 1) = l[l.length - 1] := by unfold bxOf; rw [List.getD_eq_getElem?_getD, List.getElem?_eq_getElem hl]; rfl
  rw [g]
  by_cases c : i = l.length - 1
  · subst c; exact e
  · have := List.pairwise_iff_getElem.mp hs i (l.length - 1) hi hl (by omega)
    rw [e] at this
    exact absurd this (h _ (List.getElem_mem hl))
structure WaysI (ks : List (List Int)) (own : List Int) (L : List Int) (ax : Nat) (k : Int) : Prop where
  ok : ∀ m ∈ L, Chop ks own m
  one : own ∈ ks → 1 ∈ L
  cut : ∀ (a : Nat) (q m1 m2 : Int), a < own.length → 1 ≤ q → q < gi own a → (a < ax ∨ a = ax ∧ q < k) → Lst ks (own.set a q) m1 → Lst ks (own.set a (gi own a - q)) m2 → m1 + m2 ∈ L
section
variable {ks : List (List Int)} {own : List Int} {L : List Int} {ax : Nat} {k : Int}
theorem WaysI.fin (h : WaysI ks own L ax k) (hx : own.length ≤ ax) : ∀ m, Chop ks own m → ∃ p ∈ L, p ≤ m := by
  intro m hm
  cases hm with
  | one q => exact ⟨1, h.one q, Int.le_refl _⟩
  | @cut _ a q m1 m2 ha h1 h2 c1 c2 =>
    obtain ⟨l1, g1⟩ := lst_of ⟨_, c1⟩
    obtain ⟨l2, g2⟩ := lst_of ⟨_, c2⟩
    have b1 := g1.2 _ c1
    have b2 := g2.2 _ c2
    exact ⟨_, h.cut a q l1 l2 ha h1 h2 (.inl (by omega)) g1 g2, by omega⟩
theorem WaysI.nil (h : WaysI ks own [] ax k) (hx : own.length ≤ ax) : ¬ Can ks own := fun ⟨m, hm⟩ => by
  obtain ⟨p, hp, _⟩ := h.fin hx m hm
  cases hp
theorem WaysI.least (h : WaysI ks own L ax k) (hx : own.length ≤ ax) {m : Int} (hp : m ∈ L) (hm : ∀ q ∈ L, m ≤ q) : Lst ks own m :=
  ⟨h.ok m hp, fun m' hm' => by
    obtain ⟨q, hq, e⟩ := h.fin hx m' hm'
    exact Int.le_trans (hm q hq) e⟩
theorem WaysI.next (h : WaysI ks own L ax k) (n : ¬ (Can ks (own.set ax k) ∧ Can ks (own.set ax (gi own ax - k)))) : WaysI ks own L ax (k + 1) :=
  ⟨h.ok, h.one, fun a q m1 m2 ha q1 q2 q3 g1 g2 => by
    by_cases e : a = ax ∧ q = k
    · obtain ⟨rfl, rfl⟩ := e
      exact absurd ⟨g1.can, g2.can⟩ n
    · exact h.cut a q m1 m2 ha q1 q2 (by omega) g1 g2⟩
theorem WaysI.add (h : WaysI ks own L ax k) (hx : ax < own.length) (k1 : 1 ≤ k) (k2 : k < gi own ax) {m1 m2 : Int} (l1 : Lst ks (own.set ax k) m1) (l2 : Lst ks (own.set ax (gi own ax - k)) m2) : WaysI ks own (L ++ [m1 + m2]) ax (k + 1) := by
  refine ⟨fun p hp => ?_, fun ho => List.mem_append_left _ (h.one ho), fun a q n1 n2 ha q1 q2 q3 g1 g2 => ?_⟩
  · rcases List.mem_append.mp hp with hp | hp
    · exact h.ok p hp
    · rw [List.mem_singleton.mp hp]
      exact .cut hx k1 k2 l1.1 l2.1
  · by_cases e : a = ax ∧ q = k
    · obtain ⟨rfl, rfl⟩ := e
      refine List.mem_append_right _ (List.mem_singleton.mpr ?_)
      rw [l1.uniq g1, l2.uniq g2]
    · exact List.mem_append_left _ (h.cut a q n1 n2 ha q1 q2 (by omega) g1 g2)
theorem WaysI.turn (h : WaysI ks own L ax k) (hk : gi own ax ≤ k) : WaysI ks own L (ax + 1) 1 :=
  ⟨h.ok, h.one, fun a q m1 m2 ha q1 q2 q3 g1 g2 => h.cut a q m1 m2 ha q1 q2 (by
    rcases Nat.lt_or_ge a ax with c | c
    · exact .inl c
    · have : a = ax := by omega
      subst this
      exact .inr ⟨rfl, by omega⟩) g1 g2⟩
end
structure BestI (ks : List (List Int)) (pre : List (List Int)) (kvs : KVs) : Prop where
  keys : kvs.map (·.1) = pre.filter (canB ks)
  val : ∀ p ∈ kvs, ∃ m, p.2 = .int m ∧ Lst ks p.1 m
section
variable {ks pre : List (List Int)} {kvs : KVs} {b : List Int}
theorem BestI.has (h : BestI ks pre kvs) (hb : b ∈ pre) : (valD kvs b).isSome = canB ks b := by
  rw [valD_keys, h.keys, Bool.eq_iff_iff, decide_eq_true_eq, List.mem_filter]
  exact ⟨fun q => q.2, fun q => ⟨hb, q⟩⟩
theorem BestI.at (h : BestI ks pre kvs) (hb : b ∈ pre) : (valD kvs b = none ∧ ¬ Can ks b) ∨ ∃ m, valD kvs b = some (.int m) ∧ Lst ks b m := by
  cases e : valD kvs b with
  | none =>
    refine .inl ⟨rfl, fun c => ?_⟩
    have := h.has hb
    rw [e, canB_iff.mpr c] at this
    cases this
  | some d =>
    obtain ⟨m, e2, q⟩ := h.val _ (valD_mem e)
    have e2 : d = .int m := e2
    subst e2
    exact .inr ⟨m, rfl, q⟩
theorem BestI.skip (h : BestI ks pre kvs) (n : ¬ Can ks b) : BestI ks (pre ++ [b]) kvs := by
  refine ⟨?_, h.val⟩
  rw [List.filter_append, ← h.keys]
  have : canB ks b = false := by
    cases e : canB ks b with
    | false => rfl
    | true => exact absurd (canB_iff.mp e) n
  simp [this]
theorem BestI.put (h : BestI ks pre kvs) (nb : b ∉ pre) {m : Int} (hm : Lst ks b m) : BestI ks (pre ++ [b]) (putD kvs b (.int m)) := by
  rw [putD_new (by rw [h.keys]; exact fun q => nb (List.mem_filter.mp q).1)]
  refine ⟨?_, fun p hp => ?_⟩
  · rw [List.map_append, h.keys, List.filter_append]
    simp [canB_iff.mpr hm.can]
  · rcases List.mem_append.mp hp with hp | hp
    · exact h.val p hp
    · rw [List.mem_singleton.mp hp]
      exact ⟨m, rfl, hm⟩
theorem BestI.few (h : BestI ks pre kvs) : kvs.length ≤ pre.length := by
  have := congrArg List.length h.keys
  rw [List.length_map] at this
  have := List.length_filter_le (canB ks) pre
  omega
end
theorem planE_good {ks : List (List Int)} {n : Nat} : ∀ (rs : List TW.Row) (bs : List (List Int)), ValidR ks n bs rs → (∀ b ∈ boxesR ks bs rs, b.length = n ∧ In (10 ^ 12) b) → planE ks n bs (rs.map TW.Row.d) = none
  | [], _, _, _ => rfl
  | r :: rs, bs, ⟨⟨g, ga⟩, hv⟩, hb => by
    have er : rowOf r.d = r := by
      cases r with
      | one k => rfl
      | two ax i j => rfl
    obtain ⟨t, et, _⟩ := boxesR_ext ks rs (bs ++ [boxR ks bs r])
    have hb' : ∀ b ∈ bs ++ [boxR ks bs r], b.length = n ∧ In (10 ^ 12) b := fun b hm => hb b (by
      show b ∈ boxesR ks (bs ++ [boxR ks bs r]) rs
      rw [et]
      exact List.mem_append_left _ hm)
    rw [List.map_cons, planE_cons]
    have e : errR ks.length n bs r.d = none := by
      unfold errR
      rw [er]
      cases r with
      | one k =>
        have g : k < ks.length := g
        have : rowB ks.length n bs.length (TW.Row.one k).d = true := by
          show wholeB 0 ((ks.length : Int) - 1) (.int (k : Int)) = true
          simp [wholeB]; omega
        rw [if_neg (by rw [this]; simp)]
        rfl
      | two ax i j =>
        obtain ⟨g1, g2, g3⟩ := g
        have : rowB ks.length n bs.length (TW.Row.two ax i j).d = true := by
          show (wholeB 0 ((n : Int) - 1) (.int (ax : Int)) && wholeB 0 ((bs.length : Int) - 1) (.int (i : Int)) && wholeB 0 ((bs.length : Int) - 1) (.int (j : Int))) = true
          simp [wholeB]; omega
        rw [if_neg (by rw [this]; simp)]
        show (if agreeB (bxOf bs i) (bxOf bs j) ax = false then some ("sides" : Str) else if gi (bxOf bs i) ax + gi (bxOf bs j) ax > 10 ^ 12 then some "great" else none) = none
        rw [if_neg (by rw [ga ax i j rfl]; simp), if_neg]
        have m := hb' (TW.putF (bxOf bs i) (bxOf bs j) ax) (by simp [boxR])
        have l1 := (hb' (bxOf bs i) (List.mem_append_left _ (bx_mem g2))).1
        have q := m.2 _ (gi_mem (i := ax) (by omega))
        unfold TW.putF at q
        rw [gi_set_eq (by omega)] at q
        omega
    rw [e, er]
    exact planE_good rs _ hv hb
theorem shp_rowsC {n : Nat} {ks : List (List Int)} {rs : List TW.Row} (h : Pl n ks rs) : Shp false 2 1000000 (rowsD rs) := by
  have n1 := h.1.n1
  have kl := h.1.l1
  have hl := h.2.2.2
  refine (Shp.tuple (ShpL.map (n := 1) (w := 500) (k := 1100) (fun r hr => ?_) (by omega))).mono (by decide) (by decide)
  obtain ⟨d, hd, rfl⟩ := List.mem_iff_getElem.mp hr
  obtain ⟨⟨g, _⟩, lb⟩ := h.row hd
  have e : rs.getD d (.one 0) = rs[d] := by rw [List.getD_eq_getElem?_getD, List.getElem?_eq_getElem hd]; rfl
  rw [e, lb] at g
  revert g
  generalize rs[d] = r
  intro g
  cases r with
  | one k =>
    have g : k < ks.length := g
    exact (Shp.tuple (n := 0) (ShpL.cons (Shp.int64 (by omega) (by omega)) ShpL.nil)).mono (by decide) (by decide)
  | two ax i j =>
    obtain ⟨g1, g2, g3⟩ := g
    exact (Shp.tuple (n := 0) (ShpL.cons (Shp.int64 (by omega) (by omega)) (ShpL.cons (Shp.int64 (by omega) (by omega)) (ShpL.cons (Shp.int64 (by omega) (by omega)) ShpL.nil)))).mono (by decide) (by decide)
theorem Chop.le {ks : List (List Int)} {b : List Int} {m : Int} (hk : ∀ q ∈ ks, ∀ x ∈ q, 1 ≤ x) (h : Chop ks b m) : m ≤ TW.vol b := by
  induction h with
  | one h => exact vol_pos (hk _ h)
  | @cut b ax k m1 m2 hx _ _ _ _ i1 i2 =>
    have := vol_add (l := b) (i := ax) k (gi b ax - k) hx
    have e : b.set ax (gi b ax) = b := by
      refine List.ext_getElem? fun i => ?_
      rw [List.getElem?_set]
      split
      · rename_i e; subst e; rw [gi_at hx]
      · rfl
    rw [show k + (gi b ax - k) = gi b ax by omega, e] at this
    omega
end TW
set_option Elab.async false
set_option linter.all false
set_option maxRecDepth 100000
set_option maxHeartbeats 4000000
namespace TW
open PySem PySem.Spec PyProof.Rows L2 DL
/-- kinds and a box of few cells -/
structure KBx (n : Nat) (ks : List (List Int)) (bx : List Int) : Prop where
  kd : Kd n ks
  l : bx.length = n
  p : ∀ x ∈ bx, 1 ≤ x
  v : vol bx ≤ 400
def sp_all_boxes : DSp := fun cs R => ∃ bx : List Int, cs = [.d (tI bx)] ∧ bx.length ≤ 1000 ∧ (∀ x ∈ bx, 1 ≤ x) ∧ vol bx ≤ 999999 ∧ R (.list (lT (upF bx))) cs
def sp_best_ways : DSp := fun cs R => ∃ (n : Nat) (ks : List (List Int)) (bx : List Int), cs = [.d (ksD ks), .d (tI bx)] ∧ KBx n ks bx ∧ (Best ks (upF bx) (bestF ks (upF bx)) → R (dTD (bestF ks (upF bx))) cs)
def sp_chopped : DSp := fun cs R => ∃ (n : Nat) (ks : List (List Int)) (bx : List Int), cs = [.d (ksD ks), .d (tI bx)] ∧ KBx n ks bx ∧ ∀ r : Bool, (r = true ↔ Can ks bx) → R (.bool r) cs
/-- a plan of a box with the least number of bricks -/
structure Pln (n : Nat) (ks : List (List Int)) (bx : List Int) (m : Int) (rs : List Row) : Prop where
  lst : Lst ks bx m
  val : ValidR ks n [] rs
  l0 : 0 < rs.length
  l1 : rs.length ≤ 400
  last : bxOf (boxesR ks [] rs) (rs.length - 1) = bx
  small : ∀ b ∈ boxesR ks [] rs, b ∈ upF bx
  sum : (bxOf (cntsR ks.length [] rs) (rs.length - 1)).sum = m
def sp_fewest_bricks : DSp := fun cs R => ∃ (n : Nat) (ks : List (List Int)) (bx : List Int), cs = [.d (ksD ks), .d (tI bx)] ∧ KBx n ks bx ∧ (¬ Can ks bx → R .none cs) ∧ ∀ m, Pln n ks bx m (fewR ks bx) → R (.tuple [.int m, rowsD (fewR ks bx)]) cs
def sp_chop : DSp := fun cs R => ∃ (n : Nat) (ks : List (List Int)) (bx : List Int), cs = [.d (ksD ks), .d (tI bx)] ∧ KBx n ks bx ∧ (¬ Can ks bx → R .none cs) ∧ ∀ m, Pln n ks bx m (fewR ks bx) → R (rowsD (fewR ks bx)) cs
def sp_Lsmaller : DSp := sp_all_boxes
def sp_Lleast : DSp := fun cs R => ∃ (n : Nat) (ks : List (List Int)) (bx : List Int), cs = [.d (ksD ks), .d (tI bx)] ∧ KBx n ks bx ∧ ∀ kvs : KVs, BestI ks (upF bx) kvs → R (dTD kvs) cs
def sp_Lsmall_box : DSp := fun cs R => ∃ (a b c : Addr) (n : Nat) (ks : List (List Int)) (v : Int), cs = [.dk a b c, .d (ksD ks), .d (.int v)] ∧ Kd n ks ∧ 1 ≤ v ∧ v ≤ 400 ∧ ∀ ns : List Int, ns.length = n → (∀ x ∈ ns, 1 ≤ x) → vol ns ≤ v → R (tI ns) [.dk a b c, .d (ksD ks), .d (.int v)]
def w_all_boxes_1 : DTS := (wSet 1 (mE (wOfL (wComp2 (iSeq (wVar 1)) (gN 3) tT (iRange2 (wCons (wC (.int 1)) (wCons (wOp pAddB (wVar 2) (wC (.int 1))) wNil))) (gN 4) tT (wOp pAddB (wVar 3) (wTup (wCons (wVar 4) wNil))) [3, 4] [4]))))
def w_all_boxes_s1 : DTS := (wSeq (wFor (iSeq (wVar 0)) (gN 2) w_all_boxes_1) (wRet (wVar 1)))
@[simp ↓] theorem w_all_boxes_s1_ap (E : DEnds) (δ : DS) : w_all_boxes_s1 E δ = (wSeq (wFor (iSeq (wVar 0)) (gN 2) w_all_boxes_1) (wRet (wVar 1))) E δ := rfl
def w_all_boxes : DTS := (wSeq (wSet 1 (mE (wOfL (wLst (wCons (wTup wNil) wNil))))) w_all_boxes_s1)
def w_best_ways_1 : DTS := (wDPut 2 (wVar 3) (wMinK 1 (wOp pIx (wVar 0) (wC (.int 0))) (wCons (wVar 4) wNil)))
def w_best_ways_2 : DTS := (wAppend 4 (wTup (wCons (wOp pAddB (wOp pIx (wDGet 2 (wVar 10)) (wC (.int 0))) (wOp pIx (wDGet 2 (wVar 11)) (wC (.int 0)))) (wCons (wTup (wCons (wVar 7) (wCons (wVar 10) (wCons (wVar 11) wNil)))) wNil))))
def w_best_ways_s1 : DTS := (wIf (wAnd (wB (wDIn 2 (wVar 10))) (wB (wDIn 2 (wVar 11)))) w_best_ways_2 wNext)
@[simp ↓] theorem w_best_ways_s1_ap (E : DEnds) (δ : DS) : w_best_ways_s1 E δ = (wIf (wAnd (wB (wDIn 2 (wVar 10))) (wB (wDIn 2 (wVar 11)))) w_best_ways_2 wNext) E δ := rfl
def w_best_ways_3 : DTS := (wSeq (wPar2 10 11 (msCons (mE (wCall [] sp_Lwith (wCons (wVar 3) (wCons (wVar 7) (wCons (wVar 9) wNil))))) (msCons (mE (wCall [] sp_Lwith (wCons (wVar 3) (wCons (wVar 7) (wCons (wOp pSubB (wVar 8) (wVar 9)) wNil))))) msNil))) w_best_ways_s1)
def w_best_ways_4 : DTS := (wFor (iRange2 (wCons (wC (.int 1)) (wCons (wOp pAddB (wOp pDiv (wVar 8) (wC (.int 2))) (wC (.int 1))) wNil))) (gN 9) w_best_ways_3)
def w_best_ways_t1 : DTS := (wIf (wB (wOp pNe (wVar 4) (wOfL (wLst wNil)))) w_best_ways_1 wNext)
def w_best_ways_s2 : DTS := (wSeq (wFor (iEnumD (wCons (wVar 3) wNil)) (gT (gsCons (gN 7) (gsCons (gN 8) gsNil))) w_best_ways_4) w_best_ways_t1)
@[simp ↓] theorem w_best_ways_s2_ap (E : DEnds) (δ : DS) : w_best_ways_s2 E δ = (wSeq (wFor (iEnumD (wCons (wVar 3) wNil)) (gT (gsCons (gN 7) (gsCons (gN 8) gsNil))) w_best_ways_4) w_best_ways_t1) E δ := rfl
def w_best_ways_6 : DTS := (wSeq (wSet 4 (mL (wComp (iEnumD (wCons (wVar 0) wNil)) (gT (gsCons (gN 5) (gsCons (gN 6) gsNil))) (wB (wOp pEq (wVar 6) (wVar 3))) (wTup (wCons (wC (.int 1)) (wCons (wTup (wCons (wVar 5) wNil)) wNil))) [5, 6]))) w_best_ways_s2)
def w_best_ways_s3 : DTS := (wSeq (wFor (iSeq (wCall [] sp_all_boxes (wCons (wVar 1) wNil))) (gN 3) w_best_ways_6) (wRet (wVarF 2)))
@[simp ↓] theorem w_best_ways_s3_ap (E : DEnds) (δ : DS) : w_best_ways_s3 E δ = (wSeq (wFor (iSeq (wCall [] sp_all_boxes (wCons (wVar 1) wNil))) (gN 3) w_best_ways_6) (wRet (wVarF 2))) E δ := rfl
def w_best_ways : DTS := (wSeq (wSet 2 mD) w_best_ways_s3)
def w_chopped : DTS := (wRet (wOp pInT (wVar 1) (wCall [] sp_best_ways (wCons (wVar 0) (wCons (wVar 1) wNil)))))
def w_Lsmall_box_1 : DTS := (wSet 5 (mE (wFn pTupOf (wCons (wOfL (wComp (iSeq (wCall [true, false] sp_Lone (wCons (wVar 0) (wCons (wOfL (wFnL pLstOf (wCons (wVar 1) wNil))) wNil)))) (gN 6) tT (wOp pMulT (wVar 6) (wOp pAddB (wC (.int 1)) (wCall [true, false] sp_Ldraw (wCons (wVar 0) (wCons (wC (.int 4)) wNil))))) [6])) wNil))))
def w_Lsmall_box_t1 : DTS := (wIf (wB (wOp pLe (wCall [] sp_Lvolume (wCons (wVar 5) wNil)) (wVar 2))) (wRet (wVar 5)) wNext)
def w_Lsmall_box_s1 : DTS := (wSeq (wIf (wB (wOp pEq (wCall [true, false] sp_Ldraw (wCons (wVar 0) (wCons (wC (.int 2)) wNil))) (wC (.int 0)))) w_Lsmall_box_1 wNext) w_Lsmall_box_t1)
@[simp ↓] theorem w_Lsmall_box_s1_ap (E : DEnds) (δ : DS) : w_Lsmall_box_s1 E δ = (wSeq (wIf (wB (wOp pEq (wCall [true, false] sp_Ldraw (wCons (wVar 0) (wCons (wC (.int 2)) wNil))) (wC (.int 0)))) w_Lsmall_box_1 wNext) w_Lsmall_box_t1) E δ := rfl
def w_Lsmall_box_3 : DTS := (wSeq (wSet 5 (mE (wCall [true, false, false] sp_Lsides (wCons (wVar 0) (wCons (wVar 3) (wCons (wOp pIx (wOfL (wLst (wCons (wC (.int 40)) (wCons (wC (.int 9)) (wCons (wC (.int 5)) (wCons (wC (.int 4)) wNil)))))) (wOp pSubB (wVar 3) (wC (.int 1)))) wNil)))))) w_Lsmall_box_s1)
def w_Lsmall_box_t2 : DTS := (wRet (wOp pMulT (wTup (wCons (wC (.int 1)) wNil)) (wVar 3)))
def w_Lsmall_box_s2 : DTS := (wSeq (wFor (iRange1 (wCons (wC (.int 9)) wNil)) (gN 4) w_Lsmall_box_3) w_Lsmall_box_t2)
@[simp ↓] theorem w_Lsmall_box_s2_ap (E : DEnds) (δ : DS) : w_Lsmall_box_s2 E δ = (wSeq (wFor (iRange1 (wCons (wC (.int 9)) wNil)) (gN 4) w_Lsmall_box_3) w_Lsmall_box_t2) E δ := rfl
def w_Lsmall_box : DTS := (wSeq (wSet 3 (mE (wFn pLen (wCons (wOp pIx (wVar 1) (wC (.int 0))) wNil)))) w_Lsmall_box_s2)
def w_fewest_bricks_s1 : DTS := (wAppend 4 (wIfE (wB (wOp pEq (wFn pLen (wCons (wVar 7) wNil)) (wC (.int 1)))) (wVar 7) (wTup (wCons (wOp pIx (wVar 7) (wC (.int 0))) (wCons (wDGet 3 (wOp pIx (wVar 7) (wC (.int 1)))) (wCons (wDGet 3 (wOp pIx (wVar 7) (wC (.int 2)))) wNil))))))
@[simp ↓] theorem w_fewest_bricks_s1_ap (E : DEnds) (δ : DS) : w_fewest_bricks_s1 E δ = (wAppend 4 (wIfE (wB (wOp pEq (wFn pLen (wCons (wVar 7) wNil)) (wC (.int 1)))) (wVar 7) (wTup (wCons (wOp pIx (wVar 7) (wC (.int 0))) (wCons (wDGet 3 (wOp pIx (wVar 7) (wC (.int 1)))) (wCons (wDGet 3 (wOp pIx (wVar 7) (wC (.int 2)))) wNil)))))) E δ := rfl
def w_fewest_bricks_1 : DTS := (wSeq (wDPut 3 (wVar 5) (wFn pLen (wCons (wVar 4) wNil))) w_fewest_bricks_s1)
def w_fewest_bricks_t1 : DTS := (wRet (wTup (wCons (wOp pIx (wTGet 2 (wVar 1)) (wC (.int 0))) (wCons (wFn pTupOf (wCons (wVar 4) wNil)) wNil))))
def w_fewest_bricks_t2 : DTS := (wSeq (wFor (iItemsT (wVar 2)) (gT (gsCons (gN 5) (gsCons (gT (gsCons (gN 6) (gsCons (gN 7) gsNil))) gsNil))) w_fewest_bricks_1) w_fewest_bricks_t1)
def w_fewest_bricks_s2 : DTS := (wSeq (wIf (wB (wTNotIn 2 (wVar 1))) (wRet (wC .none)) wNext) w_fewest_bricks_t2)
@[simp ↓] theorem w_fewest_bricks_s2_ap (E : DEnds) (δ : DS) : w_fewest_bricks_s2 E δ = (wSeq (wIf (wB (wTNotIn 2 (wVar 1))) (wRet (wC .none)) wNext) w_fewest_bricks_t2) E δ := rfl
def w_fewest_bricks : DTS := (wSeq (wPar3 2 3 4 (msCons (mE (wCall [] sp_best_ways (wCons (wVar 0) (wCons (wVar 1) wNil)))) (msCons mD (msCons (mL (wLst wNil)) msNil)))) w_fewest_bricks_s2)
def w_chop_s1 : DTS := (wRet (wIfE (wB (wOp pIs (wVar 2) (wC .none))) (wC .none) (wOp pIx (wVar 2) (wC (.int 1)))))
@[simp ↓] theorem w_chop_s1_ap (E : DEnds) (δ : DS) : w_chop_s1 E δ = (wRet (wIfE (wB (wOp pIs (wVar 2) (wC .none))) (wC .none) (wOp pIx (wVar 2) (wC (.int 1))))) E δ := rfl
def w_chop : DTS := (wSeq (wSet 2 (mE (wCall [] sp_fewest_bricks (wCons (wVar 0) (wCons (wVar 1) wNil))))) w_chop_s1)
def w_Lsmaller : DTS := (wRet (wOfL (wComp (iSeq (wCall [] sp_Lcells (wCons (wVar 0) wNil))) (gN 2) tT (wFn pTupOf (wCons (wOfL (wComp (iSeq (wVar 2)) (gN 1) tT (wOp pAddB (wVar 1) (wC (.int 1))) [1])) wNil)) [2])))
def w_Lleast_1 : DTS := (wDPut 2 (wVar 3) (wFn pMinS (wCons (wVar 4) wNil)))
def w_Lleast_2 : DTS := (wAppend 4 (wOp pAddB (wDGet 2 (wVar 7)) (wDGet 2 (wVar 8))))
def w_Lleast_s1 : DTS := (wIf (wAnd (wB (wDIn 2 (wVar 7))) (wB (wDIn 2 (wVar 8)))) w_Lleast_2 wNext)
@[simp ↓] theorem w_Lleast_s1_ap (E : DEnds) (δ : DS) : w_Lleast_s1 E δ = (wIf (wAnd (wB (wDIn 2 (wVar 7))) (wB (wDIn 2 (wVar 8)))) w_Lleast_2 wNext) E δ := rfl
def w_Lleast_s2 : DTS := (wSeq (wSet 8 (mE (wOp pAddB (wOp pAddB (wSl pSl (wVar 3) wNoP (wPart (wVar 5))) (wTup (wCons (wOp pSubB (wOp pIx (wVar 3) (wVar 5)) (wVar 6)) wNil))) (wSl pSl (wVar 3) (wPart (wOp pAddB (wVar 5) (wC (.int 1)))) wNoP)))) w_Lleast_s1)
@[simp ↓] theorem w_Lleast_s2_ap (E : DEnds) (δ : DS) : w_Lleast_s2 E δ = (wSeq (wSet 8 (mE (wOp pAddB (wOp pAddB (wSl pSl (wVar 3) wNoP (wPart (wVar 5))) (wTup (wCons (wOp pSubB (wOp pIx (wVar 3) (wVar 5)) (wVar 6)) wNil))) (wSl pSl (wVar 3) (wPart (wOp pAddB (wVar 5) (wC (.int 1)))) wNoP)))) w_Lleast_s1) E δ := rfl
def w_Lleast_3 : DTS := (wSeq (wSet 7 (mE (wOp pAddB (wOp pAddB (wSl pSl (wVar 3) wNoP (wPart (wVar 5))) (wTup (wCons (wVar 6) wNil))) (wSl pSl (wVar 3) (wPart (wOp pAddB (wVar 5) (wC (.int 1)))) wNoP)))) w_Lleast_s2)
def w_Lleast_4 : DTS := (wFor (iRange2 (wCons (wC (.int 1)) (wCons (wOp pIx (wVar 3) (wVar 5)) wNil))) (gN 6) w_Lleast_3)
def w_Lleast_t1 : DTS := (wIf (wB (wOp pNe (wVar 4) (wOfL (wLst wNil)))) w_Lleast_1 wNext)
def w_Lleast_s3 : DTS := (wSeq (wFor (iRange1 (wCons (wFn pLen (wCons (wVar 3) wNil)) wNil)) (gN 5) w_Lleast_4) w_Lleast_t1)
@[simp ↓] theorem w_Lleast_s3_ap (E : DEnds) (δ : DS) : w_Lleast_s3 E δ = (wSeq (wFor (iRange1 (wCons (wFn pLen (wCons (wVar 3) wNil)) wNil)) (gN 5) w_Lleast_4) w_Lleast_t1) E δ := rfl
def w_Lleast_6 : DTS := (wSeq (wSet 4 (mL (wIfL (wB (wOp pIn (wVar 3) (wVar 0))) (wLst (wCons (wC (.int 1)) wNil)) (wLst wNil)))) w_Lleast_s3)
def w_Lleast_s4 : DTS := (wSeq (wFor (iSeq (wCall [] sp_Lsmaller (wCons (wVar 1) wNil))) (gN 3) w_Lleast_6) (wRet (wVarF 2)))
@[simp ↓] theorem w_Lleast_s4_ap (E : DEnds) (δ : DS) : w_Lleast_s4 E δ = (wSeq (wFor (iSeq (wCall [] sp_Lsmaller (wCons (wVar 1) wNil))) (gN 3) w_Lleast_6) (wRet (wVarF 2))) E δ := rfl
def w_Lleast : DTS := (wSeq (wSet 2 mD) w_Lleast_s4)
theorem ln_all_boxes : ∀ cs R, sp_all_boxes cs R → cs.length = 1 := by
  intro cs R h
  unfold sp_all_boxes at h
  repeat (obtain ⟨_, h⟩ := h)
  subst_vars; rfl
theorem ln_best_ways : ∀ cs R, sp_best_ways cs R → cs.length = 2 := by
  intro cs R h
  unfold sp_best_ways at h
  repeat (obtain ⟨_, h⟩ := h)
  subst_vars; rfl
theorem ln_chopped : ∀ cs R, sp_chopped cs R → cs.length = 2 := by
  intro cs R h
  unfold sp_chopped at h
  repeat (obtain ⟨_, h⟩ := h)
  subst_vars; rfl
theorem ln_Lsmall_box : ∀ cs R, sp_Lsmall_box cs R → cs.length = 3 := by
  intro cs R h
  unfold sp_Lsmall_box at h
  repeat (obtain ⟨_, h⟩ := h)
  subst_vars; rfl
theorem ln_fewest_bricks : ∀ cs R, sp_fewest_bricks cs R → cs.length = 2 := by
  intro cs R h
  unfold sp_fewest_bricks at h
  repeat (obtain ⟨_, h⟩ := h)
  subst_vars; rfl
theorem ln_chop : ∀ cs R, sp_chop cs R → cs.length = 2 := by
  intro cs R h
  unfold sp_chop at h
  repeat (obtain ⟨_, h⟩ := h)
  subst_vars; rfl
theorem ln_Lsmaller : ∀ cs R, sp_Lsmaller cs R → cs.length = 1 := by
  intro cs R h
  unfold sp_Lsmaller at h
  repeat (obtain ⟨_, h⟩ := h)
  subst_vars; rfl
theorem ln_Lleast : ∀ cs R, sp_Lleast cs R → cs.length = 2 := by
  intro cs R h
  unfold sp_Lleast at h
  repeat (obtain ⟨_, h⟩ := h)
  subst_vars; rfl
end TW
set_option Elab.async false
set_option linter.all false
set_option maxRecDepth 100000
set_option maxHeartbeats 4000000
namespace TW
open PySem PySem.Spec PyProof.Rows L2 DL
theorem rd_all_boxes : ∀ cs R, sp_all_boxes cs R → w_all_boxes (endsOf cs R) (start0 5 cs) := by
  rintro _ R ⟨ns, rfl, hl, h1, hv, hR⟩
  simp -implicitDefEqProofs -dsimp [w_all_boxes]
  refine for_pre ns PyData.int rfl (fun pre δ => ∃ c2, δ = [.d (tI ns), .d (.list (lT (upF pre))), c2, .em, .em]) ⟨_, rfl⟩ ?_ ?_
  · rintro δ ⟨c2, rfl⟩
    (try simp -implicitDefEqProofs -dsimp)
    exact hR
  · rintro pre s rest δ he ⟨c2, rfl⟩ K B T hK
    have s0 := h1 s (by rw [he]; simp)
    have e := cells_len _ pre rfl fun x hx => by have := h1 x (by rw [he]; simp [hx]); omega
    have v := vol_pre (as := pre ++ [s]) (bs := rest) fun x hx => h1 x (by rw [he]; simpa using hx)
    have e2 : pre ++ [s] ++ rest = ns := by rw [he]; simp
    rw [e2, vol_app] at v
    have lu : (upF pre).length = (cellsF pre).length := by rw [up_cells, List.length_map]
    have bd : (((upF pre).length * s.toNat : Nat) : Int) ≤ 999999 := by
      rw [Int.natCast_mul, lu, e, Int.toNat_of_nonneg (by omega)]; omega
    simp -implicitDefEqProofs -dsimp [w_all_boxes_1]
    refine com2_map (upF pre) tI rfl (fun own => (List.range s.toNat).map fun (k : Nat) => tI (own ++ [1 + (k : Int)])) (fun p2 own post2 em2 K2 hK2 => ?_) ?_
    · have lo : (p2.flatMap fun own => (List.range s.toNat).map fun (k : Nat) => tI (own ++ [1 + (k : Int)])).length = p2.length * s.toNat := by
        clear em2 hK2
        induction p2 with
        | nil => simp
        | cons x xs ih => rw [List.flatMap_cons, List.length_append, ih]; simp [Nat.succ_mul]; omega
      have lp : p2.length + 1 ≤ (upF pre).length := by rw [em2]; simp
      have lm : (p2.length + 1) * s.toNat ≤ (upF pre).length * s.toNat := Nat.mul_le_mul_right _ lp
      rw [Nat.succ_mul] at lm
      revert hK2 lo
      generalize (p2.flatMap fun own => (List.range s.toNat).map fun (k : Nat) => tI (own ++ [1 + (k : Int)])) = P
      intro hK2 lo
      (try simp -implicitDefEqProofs -dsimp)
      have ss : s ≤ 999999 := by
        by_cases z : vol pre = 0
        · have : (upF pre).length = 0 := by omega
          omega
        · have v0 : 1 ≤ vol pre := by omega
          have := Int.mul_le_mul_of_nonneg_right v0 (show 0 ≤ s by omega)
          omega
      have lown : own.length ≤ 1000 := by
        have : own ∈ upF pre := by rw [em2]; simp
        have := (mem_up.mp this).1
        have : pre.length ≤ ns.length := by rw [he]; simp
        omega
      refine ⟨by omega, by rw [nums_len]; omega, com_mapA (List.range s.toNat) (fun (k : Nat) => .int (1 + (k : Int))) (nums_map 1 _) (fun (k : Nat) => some (tI (own ++ [1 + (k : Int)]))) (fun k hk acc K3 hK3 => ?_) ?_⟩
      · have g : lI own ++ [PyData.int (1 + (k : Int))] = lI (own ++ [1 + (k : Int)]) := by unfold lI; simp
        (try simp -implicitDefEqProofs -dsimp)
        rw [g]
        exact ⟨by omega, hK3⟩
      · rw [List.filterMap_eq_map']
        exact hK2
    · have e3 : (upF pre).flatMap (fun own => (List.range s.toNat).map fun (k : Nat) => tI (own ++ [1 + (k : Int)])) = lT (upF (pre ++ [s])) := by
        rw [up_app]
        unfold upStep lT
        rw [List.map_flatMap]
        congr 1
        funext own
        rw [List.map_map]
        rfl
      rw [e3]
      (try simp -implicitDefEqProofs -dsimp)
      exact hK _ ⟨_, rfl⟩
/-- a box that is looked at: all smaller ones stand ahead of it -/
structure Own (n : Nat) (ks : List (List Int)) (bx : List Int) (pre : List (List Int)) (own : List Int) : Prop where
  kb : KBx n ks bx
  up : own ∈ upF bx
  bef : ∀ b, b ∈ upF bx → lx b own → b ∈ pre
  len : own.length = n
  sd : ∀ i, i < n → 1 ≤ gi own i ∧ gi own i ≤ 400
theorem Own.set {n : Nat} {ks : List (List Int)} {bx : List Int} {pre : List (List Int)} {own : List Int} (h : Own n ks bx pre own) {ax : Nat} {k : Int} (hx : ax < n) (h1 : 1 ≤ k) (h2 : k < gi own ax) : own.set ax k ∈ pre :=
  h.bef _ (set_up h.up h1 (by omega)) (lx_set (by rw [h.len]; exact hx) h2)
theorem rd_best_ways_3 {E : DEnds} {n : Nat} {ks pre : List (List Int)} {bx own : List Int} {kvs : KVs} {L : List (Int × Wy)} {ax : Nat} {k : Int} {a1 a2 : Addr} {c5 c6 c10 c11 : Cell} (ho : Own n ks bx pre own) (hb : Best ks pre kvs) (hx : ax < n) (k1 : 1 ≤ k) (k2 : 2 * k ≤ gi own ax) (hL : L.length ≤ 100000) (hw : Ways ks own L ax k)
    (hR : ∀ c10 c11, Ways ks own (L ++ cutW kvs own ax k) ax (k + 1) → (cutW kvs own ax k).length ≤ 1 → E.nx [.d (ksD ks), .d (tI bx), .od a1 kvs, .d (tI own), .ol a2 ((L ++ cutW kvs own ax k).map wyD), c5, c6, .d (.int (ax : Int)), .d (.int (gi own ax)), .d (.int k), c10, c11]) :
    w_best_ways_3 E [.d (ksD ks), .d (tI bx), .od a1 kvs, .d (tI own), .ol a2 (L.map wyD), c5, c6, .d (.int (ax : Int)), .d (.int (gi own ax)), .d (.int k), c10, c11] := by
  have n0 := ho.kb.kd.n0
  have n1 := ho.kb.kd.n1
  have lo := ho.len
  have s400 := (ho.sd ax hx).2
  simp -implicitDefEqProofs -dsimp [w_best_ways_3]
  refine ask_of (sp := sp_Lwith) ⟨lI own, ax, _, rfl, by simp; omega, by simp; omega, ?_⟩
  (try simp -implicitDefEqProofs -dsimp)
  refine ask_of (sp := sp_Lwith) ⟨lI own, ax, _, rfl, by simp; omega, by simp; omega, ?_⟩
  have sI : ∀ y : Int, (lI own).set ax (.int y) = lI (own.set ax y) := fun y => by unfold lI; rw [List.map_set]
  rw [sI, sI]
  have p1 := ho.set (k := k) hx k1 (by omega)
  have p2 := ho.set (k := gi own ax - k) hx (by omega) (by omega)
  have e1 : ∀ y : Int, (own.set ax y) ≠ [] := fun y e => by
    have := congrArg List.length e
    rw [List.length_set] at this
    have : own.length = 0 := this
    omega
  have f1 := e1 k
  have f2 := e1 (gi own ax - k)
  have step1 := hw.next
  have step2 := fun {m1 m2} => hw.add (m1 := m1) (m2 := m2) (by omega) k1 (by omega)
  have q1 := hb.at p1
  have q2 := hb.at p2
  have t1 := cutW_no1 (kvs := kvs) (own := own) (ax := ax) (k := k)
  have t2 := cutW_no2 (kvs := kvs) (own := own) (ax := ax) (k := k)
  have t3 := fun {m1 m2 w1 w2} => cutW_two (kvs := kvs) (own := own) (ax := ax) (k := k) (m1 := m1) (m2 := m2) (w1 := w1) (w2 := w2)
  generalize cutW kvs own ax k = CW at hR t1 t2 t3
  generalize own.set ax k = lw at p1 f1 step1 step2 q1 t1 t3 ⊢
  generalize own.set ax (gi own ax - k) = hi at p2 f2 step1 step2 q2 t2 t3 ⊢
  (try simp -implicitDefEqProofs -dsimp)
  refine ⟨f1, ?_⟩
  rcases q1 with ⟨g1, z1⟩ | ⟨m1, w1, g1, l1, _⟩
  · rw [g1]
    (try simp -implicitDefEqProofs -dsimp)
    rw [t1 g1, List.append_nil] at hR
    exact hR _ _ (step1 fun q => z1 q.1) (by simp)
  rw [g1]
  (try simp -implicitDefEqProofs -dsimp)
  refine ⟨f2, ?_⟩
  rcases q2 with ⟨g2, z2⟩ | ⟨m2, w2, g2, l2, _⟩
  · rw [g2]
    (try simp -implicitDefEqProofs -dsimp)
    rw [t2 g2, List.append_nil] at hR
    exact hR _ _ (step1 fun q => z2 q.2) (by simp)
  rw [g2]
  simp -implicitDefEqProofs -dsimp [w_best_ways_2, g1, g2, wyD]
  have st := step2 l1 l2
  have em : L.map wyD ++ [.tuple [.int (m1 + m2), .tuple [.int (ax : Int), .tuple (lI lw), .tuple (lI hi)]]] = (L ++ [(m1 + m2, Wy.cut ax lw hi)]).map wyD := by rw [List.map_append]; rfl
  rw [em]
  rw [t3 g1 g2] at hR
  exact ⟨⟨_, _, rfl⟩, ⟨_, _, rfl⟩, f1, ⟨_, _, rfl⟩, f2, by omega, hR _ _ st (by simp)⟩
theorem rd_best_ways_4 {E : DEnds} {n : Nat} {ks pre : List (List Int)} {bx own : List Int} {kvs : KVs} {L : List (Int × Wy)} {ax : Nat} {a1 a2 : Addr} {c5 c6 c9 c10 c11 : Cell} (ho : Own n ks bx pre own) (hb : Best ks pre kvs) (hx : ax < n) (hL : L.length ≤ 4 + 400 * ax) (hw : Ways ks own L ax 1)
    (hR : ∀ c9 c10 c11, Ways ks own (L ++ axW kvs own ax (gi own ax / 2).toNat) (ax + 1) 1 → (L ++ axW kvs own ax (gi own ax / 2).toNat).length ≤ 4 + 400 * (ax + 1) → E.nx [.d (ksD ks), .d (tI bx), .od a1 kvs, .d (tI own), .ol a2 ((L ++ axW kvs own ax (gi own ax / 2).toNat).map wyD), c5, c6, .d (.int (ax : Int)), .d (.int (gi own ax)), c9, c10, c11]) :
    w_best_ways_4 E [.d (ksD ks), .d (tI bx), .od a1 kvs, .d (tI own), .ol a2 (L.map wyD), c5, c6, .d (.int (ax : Int)), .d (.int (gi own ax)), c9, c10, c11] := by
  obtain ⟨s1, s2⟩ := ho.sd ax hx
  have n1 := ho.kb.kd.n1
  simp -implicitDefEqProofs -dsimp [w_best_ways_4]
  refine ⟨by decide, ⟨by omega, by omega⟩, for_cnt 1 _ (fun i δ => ∃ c9 c10 c11, δ = [.d (ksD ks), .d (tI bx), .od a1 kvs, .d (tI own), .ol a2 ((L ++ axW kvs own ax i).map wyD), c5, c6, .d (.int (ax : Int)), .d (.int (gi own ax)), c9, c10, c11] ∧ Ways ks own (L ++ axW kvs own ax i) ax (1 + (i : Int)) ∧ (L ++ axW kvs own ax i).length ≤ 4 + 400 * ax + i) ⟨c9, c10, c11, by simp [axW], by simpa [axW] using hw, by simpa [axW] using hL⟩ ?_ ?_⟩
  · rintro δ ⟨c9, c10, c11, rfl, hw', hl'⟩
    exact hR _ _ _ (hw'.turn (by omega)) (by omega)
  · rintro i δ hi ⟨c9, c10, c11, rfl, hw', hl'⟩ K B T hK
    simp -implicitDefEqProofs -dsimp [-List.map_append]
    have e5 : L ++ axW kvs own ax (i + 1) = L ++ axW kvs own ax i ++ cutW kvs own ax (1 + (i : Int)) := by rw [axW_succ, List.append_assoc]
    refine rd_best_ways_3 ho hb hx (by omega) (by omega) (by omega) hw' fun c10 c11 h2 l2 => hK _ ⟨.d (.int (1 + (i : Int))), c10, c11, by rw [e5], ?_, ?_⟩
    · rw [e5, show 1 + ((i + 1 : Nat) : Int) = 1 + (i : Int) + 1 by omega]; exact h2
    · rw [e5, List.length_append]
      omega
theorem lay_wy (p : Int × Wy) : (wyD p).canLay0 = true ∧ (wyD p).depth ≤ 3 := by
  obtain ⟨m, w⟩ := p
  cases w with
  | one k => exact ⟨rfl, by simp [wyD, Wy.d, PyData.depth, PyData.depthAll]⟩
  | cut ax lo hi =>
    have c1 := canLay_ints lo
    have c2 := canLay_ints hi
    have d1 := depth_ints lo
    have d2 := depth_ints hi
    constructor
    · simp [wyD, Wy.d, tI, lI, PyData.canLay0, PyData.canLayAll0, c1, c2]
    · simp only [wyD, Wy.d, tI, lI, PyData.depth, PyData.depthAll]
      omega
theorem shaped_wys (L : List (Int × Wy)) : SeqAt.shaped (.list (L.map wyD)) = true := by
  have g : PyData.canLayAll0 (L.map wyD) = true ∧ PyData.depthAll (L.map wyD) ≤ 4 := by
    induction L with
    | nil => exact ⟨rfl, by simp [PyData.depthAll]⟩
    | cons b bs ih =>
      obtain ⟨h1, h2⟩ := lay_wy b
      rw [List.map_cons]
      constructor
      · simp only [PyData.canLayAll0, h1, ih.1, Bool.and_true]
      · have := ih.2
        simp only [PyData.depthAll]
        omega
  obtain ⟨h1, h2⟩ := g
  simp [SeqAt.shaped, PyData.canLay0, PyData.depth, h1]
  omega
theorem ways_best {ks : List (List Int)} {own : List Int} {L : List (Int × Wy)} {ax : Nat} {k : Int} (h : Ways ks own L ax k) (hx : own.length ≤ ax) {i : Nat} {p : Int × Wy} (hp : L[i]? = some p) (hm : ∀ j, j < L.length → p.1 ≤ (L.getD j p).1) : Lst ks own p.1 ∧ WyOk ks own p.1 p.2 := by
  have hmem := List.mem_of_getElem? hp
  refine ⟨h.least hx hmem fun q hq => ?_, h.ok p hmem⟩
  obtain ⟨j, hj, e⟩ := List.mem_iff_getElem.mp hq
  have := hm j hj
  rw [List.getD_eq_getElem?_getD, List.getElem?_eq_getElem hj, e] at this
  exact this
theorem rd_best_ways_t1 {E : DEnds} {n : Nat} {ks pre : List (List Int)} {bx own : List Int} {kvs : KVs} {L : List (Int × Wy)} {a1 a2 : Addr} {c5 c6 c7 c8 c9 c10 c11 : Cell} (ho : Own n ks bx pre own) (no : own ∉ pre) (hb : Best ks pre kvs) (hk : kvs.length ≤ 100000) (hL : L.length ≤ 100000) (hw : Ways ks own L n 1) (hF : waysF ks kvs own n = L)
    (hR : ∀ c4, Best ks (pre ++ [own]) (stepF ks kvs own) → E.nx [.d (ksD ks), .d (tI bx), .od a1 (stepF ks kvs own), .d (tI own), c4, c5, c6, c7, c8, c9, c10, c11]) :
    w_best_ways_t1 E [.d (ksD ks), .d (tI bx), .od a1 kvs, .d (tI own), .ol a2 (L.map wyD), c5, c6, c7, c8, c9, c10, c11] := by
  have n0 := ho.kb.kd.n0
  have lo := ho.len
  simp -implicitDefEqProofs -dsimp [w_best_ways_t1]
  refine ⟨shaped_wys L, shaped_nil, ?_⟩
  cases L with
  | nil =>
    simp only [List.map_nil, PyData.eqvAll, if_true]
    have eS : stepF ks kvs own = kvs := by
      unfold stepF
      rw [lo, hF]
      rfl
    rw [eS] at hR
    exact hR _ (hb.skip (hw.nil (by omega)))
  | cons q0 Q =>
    obtain ⟨L, hLq⟩ : ∃ L, q0 :: Q = L := ⟨_, rfl⟩
    have l0 : 0 < L.length := by rw [← hLq]; simp
    rw [if_neg (by simp [PyData.eqvAll])]
    rw [hLq] at hL hw hF ⊢
    simp -implicitDefEqProofs -dsimp [w_best_ways_1]
    have at_ : ∀ {i : Nat} {d : PyData}, (L.map wyD)[i]? = some d → ∃ p, L[i]? = some p ∧ d = wyD p := fun {i d} h => by
      rw [List.getElem?_map] at h
      cases e : L[i]? with
      | none => rw [e] at h; cases h
      | some p => rw [e] at h; cases h; exact ⟨p, rfl, rfl⟩
    refine ⟨⟨_, _, rfl⟩, L.map wyD, fun i => (L.getD i (0, .one 0)).1, rfl, by simpa using l0, fun i d hd => ?_, fun i d hd hm => ?_⟩
    · obtain ⟨p, hp, rfl⟩ := at_ hd
      refine ⟨rfl, ?_⟩
      unfold wyD
      (try simp -implicitDefEqProofs -dsimp)
      rw [hp]
      rfl
    · obtain ⟨p, hp, rfl⟩ := at_ hd
      have gd : ∀ j, j < L.length → (L.getD j (0, .one 0)).1 = (L.getD j p).1 := fun j hj => by
        rw [List.getD_eq_getElem?_getD, List.getD_eq_getElem?_getD, List.getElem?_eq_getElem hj]; rfl
      have hi : i < L.length := by
        by_cases c : i < L.length
        · exact c
        · rw [List.getElem?_eq_none (by omega)] at hp; cases hp
      have gp : (L.getD i (0, .one 0)).1 = p.1 := by rw [List.getD_eq_getElem?_getD, hp]; rfl
      obtain ⟨z1, z2⟩ := ways_best hw (by omega) hp fun j hj => by
        have : (L.getD i (0, .one 0)).1 ≤ (L.getD j (0, .one 0)).1 := (hm j (by simpa using hj)).1
        rw [gd j hj, gp] at this
        exact this
      have eo : own ≠ [] := fun e => by rw [e] at lo; simp at lo; omega
      have eS : stepF ks kvs own = putD kvs own (wyD p) := by
        unfold stepF
        rw [lo, hF, minC_some hp fun j q hq => ?_]
        have hj : j < L.length := by
          by_cases c : j < L.length
          · exact c
          · rw [List.getElem?_eq_none (by omega)] at hq; cases hq
        have : (L.getD i (0, .one 0)).1 ≤ (L.getD j (0, .one 0)).1 ∧ (j < i → (L.getD i (0, .one 0)).1 < (L.getD j (0, .one 0)).1) := hm j (by simpa using hj)
        have gq : (L.getD j (0, .one 0)).1 = q.1 := by rw [List.getD_eq_getElem?_getD, hq]; rfl
        rw [gp, gq] at this
        exact this
      rw [eS] at hR
      (try simp -implicitDefEqProofs -dsimp)
      exact ⟨eo, by omega, hR _ (hb.put no z1 z2)⟩
theorem rd_best_ways_6 {E : DEnds} {n : Nat} {ks pre : List (List Int)} {bx own : List Int} {kvs : KVs} {a1 : Addr} {c4 c7 c8 c9 c10 c11 : Cell} (ho : Own n ks bx pre own) (no : own ∉ pre) (hb : Best ks pre kvs) (hk : kvs.length ≤ 100000)
    (hR : ∀ c4 c7 c8 c9 c10 c11, Best ks (pre ++ [own]) (stepF ks kvs own) → E.nx [.d (ksD ks), .d (tI bx), .od a1 (stepF ks kvs own), .d (tI own), c4, .em, .em, c7, c8, c9, c10, c11]) :
    w_best_ways_6 E [.d (ksD ks), .d (tI bx), .od a1 kvs, .d (tI own), c4, .em, .em, c7, c8, c9, c10, c11] := by
  have n0 := ho.kb.kd.n0
  have n1 := ho.kb.kd.n1
  have k1 := ho.kb.kd.l1
  have lo := ho.len
  simp -implicitDefEqProofs -dsimp [w_best_ways_6]
  refine com_map (ks.zipIdx) (fun p => .tuple [.int (p.2 : Int), tI p.1]) (numbered_zip tI ks 0) (fun p => if decide (p.1 = own) = true then some (wyD (1, .one p.2)) else none) (fun p hp acc K hK => ?_) ?_
  · (try simp -implicitDefEqProofs -dsimp)
    refine ⟨shaped_intsT _, shaped_intsT _, ?_⟩
    rw [eqvAll_ints]
    by_cases c : p.1 = own
    · simp only [c, decide_true, if_true]
      simpa [c, wyD, Wy.d] using hK
    · simp only [c, decide_false, Bool.false_eq_true, if_false]
      simpa [c] using hK
  · rw [fm_map (fun p : List Int × Nat => decide (p.1 = own)) fun p : List Int × Nat => wyD (1, .one p.2)]
    obtain ⟨L0, hL0⟩ : ∃ L0 : List (Int × Wy), (ks.zipIdx.filter fun p => decide (p.1 = own)).map (fun p => ((1, .one p.2) : Int × Wy)) = L0 := ⟨_, rfl⟩
    have e0 : (ks.zipIdx.filter fun p => decide (p.1 = own)).map (fun p => wyD (1, .one p.2)) = L0.map wyD := by rw [← hL0, List.map_map]; rfl
    have l0 : L0.length ≤ 4 := by
      rw [← hL0, List.length_map]
      have := List.length_filter_le (fun p : List Int × Nat => decide (p.1 = own)) ks.zipIdx
      rw [List.length_zipIdx] at this
      omega
    have w0 : Ways ks own L0 0 1 := by
      refine ⟨fun p hp => ?_, fun hin => ?_, fun a q m1 m2 ha q1 q2 q3 g1 g2 => by omega⟩
      · rw [← hL0] at hp
        obtain ⟨q, hq, rfl⟩ := List.mem_map.mp hp
        obtain ⟨h1, h2⟩ := List.mem_filter.mp hq
        have h3 := List.mem_zipIdx_iff_getElem?.mp h1
        have h4 : q.1 = own := by simpa using h2
        have h5 : q.2 < ks.length := by
          by_cases c : q.2 < ks.length
          · exact c
          · rw [List.getElem?_eq_none (by omega)] at h3; cases h3
        refine ⟨h5, ?_, rfl⟩
        unfold bxOf
        rw [List.getD_eq_getElem?_getD, h3, ← h4]; rfl
      · obtain ⟨i, hi, e⟩ := List.mem_iff_getElem.mp hin
        refine ⟨(1, .one i), ?_, rfl⟩
        rw [← hL0]
        exact List.mem_map.mpr ⟨(own, i), List.mem_filter.mpr ⟨List.mem_zipIdx_iff_getElem?.mpr (by show ks[i]? = some own; rw [List.getElem?_eq_getElem hi, e]), by simp⟩, rfl⟩
    have f0 : L0 = waysF ks kvs own 0 := by rw [← hL0]; unfold waysF onesW; simp
    rw [e0]
    clear hL0 e0
    (try simp -implicitDefEqProofs -dsimp)
    intro a2
    refine for_pre (List.range own.length) (fun (i : Nat) => .tuple [.int (i : Int), .int (gi own i)]) (numbered_gi own) (fun pr δ => ∃ L c7 c8 c9 c10 c11, δ = [.d (ksD ks), .d (tI bx), .od a1 kvs, .d (tI own), .ol a2 (L.map wyD), .em, .em, c7, c8, c9, c10, c11] ∧ Ways ks own L pr.length 1 ∧ L.length ≤ 4 + 400 * pr.length ∧ waysF ks kvs own pr.length = L) ⟨L0, _, _, _, _, _, rfl, w0, by simpa using l0, f0.symm⟩ ?_ ?_
    · rintro δ ⟨L, c7, c8, c9, c10, c11, rfl, hw, hl, hF⟩
      rw [List.length_range, lo] at hw hl hF
      exact rd_best_ways_t1 ho no hb hk (by omega) hw hF fun c4 h => hR _ _ _ _ _ _ h
    · rintro pr a post δ er ⟨L, c7, c8, c9, c10, c11, rfl, hw, hl, hF⟩ K B T hK
      have ea : a = pr.length ∧ pr.length < own.length := by
        have h1 := congrArg (fun l => l[pr.length]?) er
        have h2 := congrArg List.length er
        simp at h1 h2
        have : pr.length < own.length := by omega
        rw [List.getElem?_eq_getElem (by simpa using this)] at h1
        simp at h1
        omega
      obtain ⟨rfl, hx⟩ := ea
      (try simp -implicitDefEqProofs -dsimp)
      refine rd_best_ways_4 ho hb (by omega) hl hw fun c9 c10 c11 h1 h2 => hK _ ⟨_, _, _, _, _, _, rfl, ?_, ?_, ?_⟩
      · rw [List.length_append]; exact h1
      · rw [show (pr ++ [pr.length]).length = pr.length + 1 by simp]; exact h2
      · rw [List.length_append]
        show waysF ks kvs own (pr.length + 1) = _
        rw [waysF_succ, hF]
theorem up_few {bx : List Int} (h1 : ∀ x ∈ bx, 1 ≤ x) (hv : vol bx ≤ 400) : (upF bx).length ≤ 400 := by
  have e := cells_len _ bx rfl fun x hx => by have := h1 x hx; omega
  rw [up_cells, List.length_map]
  omega
theorem Own.of {n : Nat} {ks : List (List Int)} {bx : List Int} {pre post : List (List Int)} {own : List Int} (kb : KBx n ks bx) (e : upF bx = pre ++ own :: post) : Own n ks bx pre own ∧ own ∉ pre := by
  have hm : own ∈ upF bx := by rw [e]; simp
  obtain ⟨l, h⟩ := mem_up.mp hm
  have so := up_sorted bx
  refine ⟨⟨kb, hm, fun b hb hl => before so e.symm hb hl, by rw [l, kb.l], fun i hi => ?_⟩, fun q => ?_⟩
  · have := h i (by rw [kb.l]; exact hi)
    have := vol_side1 kb.p (i := i) (by rw [kb.l]; exact hi) kb.v
    omega
  · have nd := up_nodup bx
    rw [e, List.nodup_append] at nd
    exact nd.2.2 own q own (by simp) rfl
theorem Best.few {ks pre : List (List Int)} {kvs : KVs} (h : Best ks pre kvs) : kvs.length ≤ pre.length := by
  have := congrArg List.length h.keys
  rw [List.length_map] at this
  have := List.length_filter_le (canB ks) pre
  omega
theorem rd_best_ways : ∀ cs R, sp_best_ways cs R → w_best_ways (endsOf cs R) (start0 12 cs) := by
  rintro _ R ⟨n, ks, bx, rfl, kb, hR⟩
  have uf := up_few kb.p kb.v
  have n1 := kb.kd.n1
  simp -implicitDefEqProofs -dsimp [w_best_ways]
  intro a1
  refine ask_of (sp := sp_all_boxes) ⟨bx, rfl, by rw [kb.l]; omega, kb.p, by have := kb.v; omega, ?_⟩
  (try simp -implicitDefEqProofs -dsimp)
  refine for_pre (upF bx) tI rfl (fun pre δ => ∃ c3 c4 c7 c8 c9 c10 c11, δ = [.d (ksD ks), .d (tI bx), .od a1 (bestF ks pre), c3, c4, .em, .em, c7, c8, c9, c10, c11] ∧ Best ks pre (bestF ks pre)) ⟨_, _, _, _, _, _, _, rfl, ⟨rfl, fun p hp => by cases hp⟩⟩ ?_ ?_
  · rintro δ ⟨c3, c4, c7, c8, c9, c10, c11, rfl, hb⟩
    (try simp -implicitDefEqProofs -dsimp)
    exact hR hb
  · rintro pre own post δ e ⟨c3, c4, c7, c8, c9, c10, c11, rfl, hb⟩ K B T hK
    obtain ⟨ho, no⟩ := Own.of kb e
    have : pre.length ≤ (upF bx).length := by rw [e]; simp
    have := hb.few
    (try simp -implicitDefEqProofs -dsimp)
    exact rd_best_ways_6 ho no hb (by omega) fun c4 c7 c8 c9 c10 c11 h => hK _ ⟨_, _, _, _, _, _, _, by rw [bestF_snoc], by rw [bestF_snoc]; exact h⟩
theorem rd_chopped : ∀ cs R, sp_chopped cs R → w_chopped (endsOf cs R) (start0 2 cs) := by
  rintro _ R ⟨n, ks, bx, rfl, kb, hR⟩
  simp -implicitDefEqProofs -dsimp [w_chopped]
  refine ask_of (sp := sp_best_ways) ⟨n, ks, bx, rfl, kb, fun hb => ?_⟩
  have hm : bx ∈ upF bx := mem_up.mpr ⟨rfl, fun i hi => ⟨kb.p _ (gi_mem hi), Int.le_refl _⟩⟩
  have ne : bx ≠ [] := fun e => by have := kb.l; have := kb.kd.n0; rw [e] at *; simp at *; omega
  (try simp -implicitDefEqProofs -dsimp)
  exact ⟨ne, hR _ (by rw [hb.has hm]; exact canB_iff)⟩
theorem nums_keys (P : List (List Int)) : (numsOf P).map (·.1) = P := by
  unfold numsOf
  rw [List.map_map]
  have : ∀ (l : List (List Int)) (k : Nat), (l.zipIdx k).map ((fun x : List Int × PyData => x.1) ∘ fun q : List Int × Nat => (q.1, PyData.int (q.2 : Int))) = l := fun l => by
    induction l with
    | nil => intro k; rfl
    | cons x l ih => intro k; rw [List.zipIdx_cons, List.map_cons, ih]; rfl
  exact this P 0
theorem nums_put {P : List (List Int)} {own : List Int} (h : own ∉ P) : putD (numsOf P) own (.int (P.length : Int)) = numsOf (P ++ [own]) := by
  rw [putD_new (by rw [nums_keys]; exact h)]
  unfold numsOf
  rw [List.zipIdx_append, List.map_append]
  simp
theorem nums_at {P : List (List Int)} {b : List Int} (h : b ∈ P) : ∃ i, i < P.length ∧ bxOf P i = b ∧ valD (numsOf P) b = some (.int (i : Int)) := by
  have s := valD_keys (numsOf P) b
  rw [nums_keys, decide_eq_true h] at s
  cases e : valD (numsOf P) b with
  | none => rw [e] at s; cases s
  | some d =>
    obtain ⟨q, hq, e2⟩ := List.mem_map.mp (valD_mem e)
    cases e2
    have h3 := List.mem_zipIdx_iff_getElem?.mp hq
    have h5 : q.2 < P.length := by
      by_cases c : q.2 < P.length
      · exact c
      · rw [List.getElem?_eq_none (by omega)] at h3; cases h3
    refine ⟨q.2, h5, ?_, rfl⟩
    unfold bxOf
    rw [List.getD_eq_getElem?_getD, h3]; rfl
theorem rd_fewest_bricks_1 {E : DEnds} {n : Nat} {ks P : List (List Int)} {bx own : List Int} {rs : List Row} {m : Int} {w : Wy} {a1 a2 : Addr} {c2 c6 : Cell} (hr : Rows n ks P rs) (no : own ∉ P) (ne : own ≠ []) (ol : own.length = n) (hP : P.length ≤ 400) (lm : Lst ks own m) (hw : WyOk ks own m w)
    (bef : ∀ b, Can ks b → lx b own → (∃ ax k, ax < n ∧ 1 ≤ k ∧ k < gi own ax ∧ b = own.set ax k) → b ∈ P)
    (hR : ∀ c7, Rows n ks (P ++ [own]) (rs ++ [rowC (P ++ [own]) (wyD (m, w))]) → E.nx [.d (ksD ks), .d (tI bx), c2, .od a1 (numsOf (P ++ [own])), .ol a2 ((rs ++ [rowC (P ++ [own]) (wyD (m, w))]).map Row.d), .d (tI own), c6, c7]) :
    w_fewest_bricks_1 E [.d (ksD ks), .d (tI bx), c2, .od a1 (numsOf P), .ol a2 (rs.map Row.d), .d (tI own), c6, .d w.d] := by
  have rl := hr.len
  have np := nums_put no
  have ap : ∀ r : Row, rs.map Row.d ++ [r.d] = (rs ++ [r]).map Row.d := fun r => by rw [List.map_append]; rfl
  cases w with
  | one k =>
    obtain ⟨h1, h2, rfl⟩ := hw
    simp -implicitDefEqProofs -dsimp [w_fewest_bricks_1, Wy.d]
    rw [rl, np]
    have nl : (numsOf P).length = P.length := by unfold numsOf; simp
    rw [rowC_one] at hR
    exact ⟨⟨_, _, rfl⟩, ne, by omega, ⟨_, _, rfl⟩, by omega, by have := hR (.d (.tuple [.int (k : Int)])) (hr.one h1 h2 lm); rw [← ap] at this; exact this⟩
  | cut ax lo hi =>
    obtain ⟨hx, k, k1, k2, rfl, rfl, m1, m2, l1, l2, rfl⟩ := hw
    have find : ∀ b, b ∈ P → ∃ i, i < P.length ∧ bxOf P i = b ∧ valD (numsOf (P ++ [own])) b = some (.int (i : Int)) := fun b hb => by
      obtain ⟨i, hi, e1, e2⟩ := nums_at (P := P ++ [own]) (b := b) (List.mem_append_left _ hb)
      rw [bx_app] at e1
      by_cases c : i < P.length
      · rw [if_pos c] at e1; exact ⟨i, c, e1, e2⟩
      · have : i = P.length := by simp at hi; omega
        rw [if_neg c, if_pos this] at e1
        subst e1; exact absurd hb no
    have p1 := bef _ l1.can (lx_set hx k2) ⟨ax, k, by omega, k1, k2, rfl⟩
    have p2 := bef _ l2.can (lx_set hx (by omega)) ⟨ax, _, by omega, by omega, by omega, rfl⟩
    obtain ⟨i, hi, e1, f1⟩ := find _ p1
    obtain ⟨j, hj, e2, f2⟩ := find _ p2
    have x1 : ixC (P ++ [own]) (own.set ax k) = i := by unfold ixC; rw [f1]; rfl
    have x2 : ixC (P ++ [own]) (own.set ax (gi own ax - k)) = j := by unfold ixC; rw [f2]; rfl
    rw [rowC_cut, x1, x2] at hR
    have st := hr.two ol (by omega) hi hj e1 e2 l1 l2 lm
    have nl : (numsOf P).length = P.length := by unfold numsOf; simp
    rw [← rl] at np
    simp -implicitDefEqProofs -dsimp [w_fewest_bricks_1, Wy.d, np, f1, f2]
    refine ⟨⟨_, _, rfl⟩, ne, by omega, ⟨_, _, rfl⟩, ⟨_, _, rfl⟩, ne, ⟨_, _, rfl⟩, ne, by omega, ?_⟩
    have := hR (.d (.tuple [.int (ax : Int), tI (own.set ax k), tI (own.set ax (gi own ax - k))])) st
    rw [← ap] at this
    exact this
theorem rd_fewest_bricks : ∀ cs R, sp_fewest_bricks cs R → w_fewest_bricks (endsOf cs R) (start0 8 cs) := by
  rintro _ R ⟨n, ks, bx, rfl, kb, h0, hR⟩
  have uf := up_few kb.p kb.v
  have hm : bx ∈ upF bx := mem_up.mpr ⟨rfl, fun i hi => ⟨kb.p _ (gi_mem hi), Int.le_refl _⟩⟩
  have neb : bx ≠ [] := fun e => by have := kb.l; have := kb.kd.n0; rw [e] at *; simp at *; omega
  simp -implicitDefEqProofs -dsimp [w_fewest_bricks]
  refine ask_of (sp := sp_best_ways) ⟨n, ks, bx, rfl, kb, fun hb => ?_⟩
  obtain ⟨kvs, hkvs⟩ : ∃ kvs, bestF ks (upF bx) = kvs := ⟨_, rfl⟩
  unfold fewR at hR
  rw [hkvs] at hb hR ⊢
  (try simp -implicitDefEqProofs -dsimp)
  intro a1 a2
  refine ⟨neb, ?_⟩
  rcases hb.at hm with ⟨g, nc⟩ | ⟨m, w, g, lm, hw⟩
  · rw [g]
    (try simp -implicitDefEqProofs -dsimp)
    exact h0 nc
  rw [g]
  simp -implicitDefEqProofs -dsimp [w_fewest_bricks_t2]
  have kf := hb.few
  have kk := hb.keys
  have ks_sorted : (kvs.map (·.1)).Pairwise lx := by rw [kk]; exact (up_sorted bx).filter _
  have kmem : ∀ b, b ∈ kvs.map (·.1) ↔ b ∈ upF bx ∧ Can ks b := fun b => by rw [kk, List.mem_filter, canB_iff]
  have klen : ∀ b, b ∈ upF bx → b.length = n := fun b h => by rw [(mem_up.mp h).1, kb.l]
  have n0 := kb.kd.n0
  have knil : ∀ b, b ∈ kvs.map (·.1) → b ≠ [] := fun b h e => by
    have := klen b ((kmem b).mp h).1
    rw [e] at this; simp at this; omega
  refine ⟨by omega, fun a b hab => knil a (List.mem_map.mpr ⟨(a, b), hab, rfl⟩), ?_⟩
  refine for_pre kvs (fun p => .tuple [tI p.1, p.2]) rfl (fun pre δ => ∃ c5 c6 c7, δ = [.d (ksD ks), .d (tI bx), .d (dTD kvs), .od a1 (numsOf (pre.map (·.1))), .ol a2 ((rowsC [] pre).map Row.d), c5, c6, c7] ∧ Rows n ks (pre.map (·.1)) (rowsC [] pre)) ⟨_, _, _, rfl, Rows.nil⟩ ?_ ?_
  · rintro δ ⟨c5, c6, c7, rfl, hr⟩
    have rl := hr.len
    rw [List.length_map] at rl
    have last := sorted_last ks_sorted ((kmem bx).mpr ⟨hm, lm.can⟩) fun y hy q => lx_ge q (by rw [klen y ((kmem y).mp hy).1, kb.l]) fun i hi => (( mem_up.mp ((kmem y).mp hy).1).2 i hi).2
    rw [List.length_map] at last
    have sm := hr.sum (kvs.length - 1) (by rw [List.length_map]; omega)
    rw [last.2] at sm
    have pl : Pln n ks bx m (rowsC [] kvs) := ⟨lm, hr.val, by omega, by omega, by rw [hr.bx, rl]; exact last.2, fun b hb' => by rw [hr.bx] at hb'; exact ((kmem b).mp hb').1, by rw [rl]; exact sm.uniq lm⟩
    simp -implicitDefEqProofs -dsimp [w_fewest_bricks_t1, g, wyD]
    exact ⟨neb, hR m pl⟩
  · rintro pre p post δ e ⟨c5, c6, c7, rfl, hr⟩ K B T hK
    obtain ⟨own, d⟩ := p
    have hmem : own ∈ kvs.map (·.1) := by rw [e]; simp
    obtain ⟨m2, w2, e2, lm2, hw2⟩ := hb.val (own, d) (by rw [e]; simp)
    have e2 : d = wyD (m2, w2) := e2
    subst e2
    have ek : kvs.map (·.1) = pre.map (·.1) ++ own :: post.map (·.1) := by rw [e]; simp
    have no : own ∉ pre.map (·.1) := fun q => by
      have nd : (kvs.map (·.1)).Nodup := ks_sorted.imp fun h e => by subst e; exact lx_irr h
      rw [ek, List.nodup_append] at nd
      exact nd.2.2 own q own (by simp) rfl
    have pl : pre.length ≤ kvs.length := by rw [e]; simp
    have gu := (kmem own).mp hmem
    unfold wyD
    (try simp -implicitDefEqProofs -dsimp)
    have er : rowsC [] (pre ++ [(own, wyD (m2, w2))]) = rowsC [] pre ++ [rowC (pre.map (·.1) ++ [own]) (wyD (m2, w2))] := by rw [rowsC_snoc]; rfl
    have ek2 : (pre ++ [(own, wyD (m2, w2))]).map (·.1) = pre.map (·.1) ++ [own] := by simp
    refine rd_fewest_bricks_1 hr no (knil own hmem) (klen own gu.1) (by rw [List.length_map]; omega) lm2 hw2 (fun b hc hl hs => ?_) fun c7 h => hK _ ⟨_, _, _, by rw [er, ek2], by rw [er, ek2]; exact h⟩
    obtain ⟨ax, k, hx, k1, k2, rfl⟩ := hs
    exact before ks_sorted ek.symm ((kmem _).mpr ⟨set_up gu.1 k1 (by omega), hc⟩) hl
theorem rd_chop : ∀ cs R, sp_chop cs R → w_chop (endsOf cs R) (start0 3 cs) := by
  rintro _ R ⟨n, ks, bx, rfl, kb, h0, hR⟩
  simp -implicitDefEqProofs -dsimp [w_chop]
  refine ask_of (sp := sp_fewest_bricks) ⟨n, ks, bx, rfl, kb, fun nc => ?_, fun m pl => ?_⟩
  · (try simp -implicitDefEqProofs -dsimp)
    exact h0 nc
  · (try simp -implicitDefEqProofs -dsimp)
    exact hR m pl
theorem rd_Lsmaller : ∀ cs R, sp_Lsmaller cs R → w_Lsmaller (endsOf cs R) (start0 3 cs) := by
  rintro _ R ⟨bx, rfl, hl, h1, hv, hR⟩
  simp -implicitDefEqProofs -dsimp [w_Lsmaller]
  refine ask_of (sp := sp_Lcells) ⟨tI bx, bx, rfl, .inl rfl, hl, ?_, ?_⟩
  · exact CellsOk.of h1 (by omega)
  (try simp -implicitDefEqProofs -dsimp)
  refine com_map (cellsF bx) tI rfl (fun c => some (tI (upOne c))) (fun c hc acc K hK => ?_) ?_
  · (try simp -implicitDefEqProofs -dsimp)
    refine com_map c PyData.int rfl (fun x => some (.int (x + 1))) (fun x hx acc2 K2 hK2 => ?_) ?_
    · (try simp -implicitDefEqProofs -dsimp)
      exact hK2
    · have e : c.filterMap (fun x => some (PyData.int (x + 1))) = lI (upOne c) := by
        rw [List.filterMap_eq_map']
        unfold lI upOne
        rw [List.map_map]
        refine List.map_congr_left fun x _ => ?_
        show PyData.int (x + 1) = .int (1 + x)
        rw [Int.add_comm]
      rw [e]
      (try simp -implicitDefEqProofs -dsimp)
      exact hK
  · have e : (cellsF bx).filterMap (fun c => some (tI (upOne c))) = lT (upF bx) := by
      rw [List.filterMap_eq_map', up_cells]
      unfold lT
      rw [List.map_map]
      rfl
    rw [e]
    (try simp -implicitDefEqProofs -dsimp)
    exact hR
theorem shaped_ks (ks : List (List Int)) : SeqAt.shaped (.tuple (lT ks)) = true := by
  have g : PyData.canLayAll0 (lT ks) = true ∧ PyData.depthAll (lT ks) ≤ 2 := by
    unfold lT
    induction ks with
    | nil => exact ⟨rfl, by simp [PyData.depthAll]⟩
    | cons b bs ih =>
      have h1 : (tI b).canLay0 = true := by
        have := canLay_ints b
        simp only [tI, lI, PyData.canLay0, this]
      have h2 : (tI b).depth ≤ 1 := by
        have := depth_ints b
        simp only [tI, lI, PyData.depth]
        omega
      rw [List.map_cons]
      constructor
      · simp only [PyData.canLayAll0, h1, ih.1, Bool.and_true]
      · have := ih.2
        simp only [PyData.depthAll]
        omega
  obtain ⟨h1, h2⟩ := g
  simp [SeqAt.shaped, PyData.canLay0, PyData.depth, h1]
  omega
theorem rd_Lleast_3 {E : DEnds} {n : Nat} {ks pre : List (List Int)} {bx own : List Int} {kvs : KVs} {L : List Int} {ax : Nat} {k : Int} {a1 a2 : Addr} {c7 c8 : Cell} (ho : Own n ks bx pre own) (hb : BestI ks pre kvs) (hx : ax < n) (k1 : 1 ≤ k) (k2 : k < gi own ax) (hL : L.length ≤ 100000) (hw : WaysI ks own L ax k)
    (hR : ∀ L' c7 c8, WaysI ks own L' ax (k + 1) → L'.length ≤ L.length + 1 → E.nx [.d (ksD ks), .d (tI bx), .od a1 kvs, .d (tI own), .ol a2 (lI L'), .d (.int (ax : Int)), .d (.int k), c7, c8]) :
    w_Lleast_3 E [.d (ksD ks), .d (tI bx), .od a1 kvs, .d (tI own), .ol a2 (lI L), .d (.int (ax : Int)), .d (.int k), c7, c8] := by
  have n1 := ho.kb.kd.n1
  have lo := ho.len
  have s400 := (ho.sd ax hx).2
  have eo : own[ax]? = some (gi own ax) := gi_at (by omega)
  have z1 : (DL.cutD (lI own) none (some (ax : Int))).length ≤ 1000 := by rw [cutD_take]; simp; omega
  have z2 : (DL.cutD (lI own) (some ((ax : Int) + 1)) none).length ≤ 1000 := by rw [cutD_drop1]; simp; omega
  have c1 : ∀ y : Int, DL.cutD (lI own) none (some (ax : Int)) ++ (PyData.int y :: DL.cutD (lI own) (some ((ax : Int) + 1)) none) = lI (own.set ax y) := fun y => by
    have e := cut_put (y := PyData.int y) (xs := lI own) (n := ax) (by simp; omega)
    rw [List.append_assoc, List.singleton_append] at e
    rw [e]
    unfold lI
    rw [List.map_set]
  have p1 := ho.set (k := k) hx k1 (by omega)
  have p2 := ho.set (k := gi own ax - k) hx (by omega) (by omega)
  have e1 : ∀ y : Int, (own.set ax y) ≠ [] := fun y e => by
    have := congrArg List.length e
    rw [List.length_set] at this
    have : own.length = 0 := this
    omega
  have f1 := e1 k
  have f2 := e1 (gi own ax - k)
  have g1 := c1 k
  have g2 := c1 (gi own ax - k)
  have step1 := hw.next
  have step2 := fun {m1 m2} => hw.add (m1 := m1) (m2 := m2) (by omega) k1 (by omega)
  have q1 := hb.at p1
  have q2 := hb.at p2
  generalize own.set ax k = lw at p1 f1 step1 step2 q1 g1 ⊢
  generalize own.set ax (gi own ax - k) = hi at p2 f2 step1 step2 q2 g2 ⊢
  simp -implicitDefEqProofs -dsimp [w_Lleast_3, -w_Lleast_s2_ap]
  refine ⟨by omega, by omega, ?_⟩
  rw [g1]
  simp -implicitDefEqProofs -dsimp [eo, -w_Lleast_s1_ap]
  refine ⟨by omega, by omega, ?_⟩
  rw [g2]
  (try simp -implicitDefEqProofs -dsimp)
  refine ⟨f1, ?_⟩
  rcases q1 with ⟨r1, z1⟩ | ⟨m1, r1, l1⟩
  · rw [r1]
    (try simp -implicitDefEqProofs -dsimp)
    exact hR L _ _ (step1 fun q => z1 q.1) (by omega)
  rw [r1]
  (try simp -implicitDefEqProofs -dsimp)
  refine ⟨f2, ?_⟩
  rcases q2 with ⟨r2, z2⟩ | ⟨m2, r2, l2⟩
  · rw [r2]
    (try simp -implicitDefEqProofs -dsimp)
    exact hR L _ _ (step1 fun q => z2 q.2) (by omega)
  rw [r2]
  simp -implicitDefEqProofs -dsimp [w_Lleast_2, r1, r2]
  have st := step2 l1 l2
  have em : lI L ++ [PyData.int (m1 + m2)] = lI (L ++ [m1 + m2]) := by unfold lI; simp
  rw [em]
  exact ⟨⟨_, _, rfl⟩, ⟨_, _, rfl⟩, f1, ⟨_, _, rfl⟩, f2, by omega, hR _ _ _ st (by simp)⟩
theorem rd_Lleast_4 {E : DEnds} {n : Nat} {ks pre : List (List Int)} {bx own : List Int} {kvs : KVs} {L : List Int} {ax : Nat} {a1 a2 : Addr} {c6 c7 c8 : Cell} (ho : Own n ks bx pre own) (hb : BestI ks pre kvs) (hx : ax < n) (hL : L.length ≤ 4 + 400 * ax) (hw : WaysI ks own L ax 1)
    (hR : ∀ L' c6 c7 c8, WaysI ks own L' (ax + 1) 1 → L'.length ≤ 4 + 400 * (ax + 1) → E.nx [.d (ksD ks), .d (tI bx), .od a1 kvs, .d (tI own), .ol a2 (lI L'), .d (.int (ax : Int)), c6, c7, c8]) :
    w_Lleast_4 E [.d (ksD ks), .d (tI bx), .od a1 kvs, .d (tI own), .ol a2 (lI L), .d (.int (ax : Int)), c6, c7, c8] := by
  obtain ⟨s1, s2⟩ := ho.sd ax hx
  have n1 := ho.kb.kd.n1
  have lo := ho.len
  have eo : own[ax]? = some (gi own ax) := gi_at (by omega)
  simp -implicitDefEqProofs -dsimp [w_Lleast_4, eo]
  refine ⟨⟨by omega, by omega⟩, for_cnt 1 _ (fun i δ => ∃ L' c6 c7 c8, δ = [.d (ksD ks), .d (tI bx), .od a1 kvs, .d (tI own), .ol a2 (lI L'), .d (.int (ax : Int)), c6, c7, c8] ∧ WaysI ks own L' ax (1 + (i : Int)) ∧ L'.length ≤ 4 + 400 * ax + i) ⟨_, _, _, _, rfl, by simpa using hw, by omega⟩ ?_ ?_⟩
  · rintro δ ⟨L', c6, c7, c8, rfl, hw', hl'⟩
    exact hR L' _ _ _ (hw'.turn (by omega)) (by omega)
  · rintro i δ hi ⟨L', c6, c7, c8, rfl, hw', hl'⟩ K B T hK
    (try simp -implicitDefEqProofs -dsimp)
    exact rd_Lleast_3 ho hb hx (by omega) (by omega) (by omega) hw' fun L2 c7 c8 h2 l2 => hK _ ⟨L2, _, _, _, rfl, by rw [show 1 + ((i + 1 : Nat) : Int) = 1 + (i : Int) + 1 by omega]; exact h2, by omega⟩
theorem rd_Lleast_6 {E : DEnds} {n : Nat} {ks pre : List (List Int)} {bx own : List Int} {kvs : KVs} {a1 : Addr} {c4 c5 c6 c7 c8 : Cell} (ho : Own n ks bx pre own) (no : own ∉ pre) (hb : BestI ks pre kvs) (hk : kvs.length ≤ 100000)
    (hR : ∀ kvs' c4 c5 c6 c7 c8, BestI ks (pre ++ [own]) kvs' → E.nx [.d (ksD ks), .d (tI bx), .od a1 kvs', .d (tI own), c4, c5, c6, c7, c8]) :
    w_Lleast_6 E [.d (ksD ks), .d (tI bx), .od a1 kvs, .d (tI own), c4, c5, c6, c7, c8] := by
  have n0 := ho.kb.kd.n0
  have n1 := ho.kb.kd.n1
  have lo := ho.len
  have eo : own ≠ [] := fun e => by rw [e] at lo; simp at lo; omega
  have rest : ∀ (L0 : List Int) (a2 : Addr), L0.length ≤ 4 → WaysI ks own L0 0 1 → w_Lleast_s3 E [.d (ksD ks), .d (tI bx), .od a1 kvs, .d (tI own), .ol a2 (lI L0), c5, c6, c7, c8] := fun L0 a2 l0 w0 => by
    (try simp -implicitDefEqProofs -dsimp)
    refine ⟨by omega, for_cnt 0 _ (fun i δ => ∃ L c5 c6 c7 c8, δ = [.d (ksD ks), .d (tI bx), .od a1 kvs, .d (tI own), .ol a2 (lI L), c5, c6, c7, c8] ∧ WaysI ks own L i 1 ∧ L.length ≤ 4 + 400 * i) ⟨L0, _, _, _, _, rfl, w0, by omega⟩ ?_ ?_⟩
    · rintro δ ⟨L, c5, c6, c7, c8, rfl, hw, hl⟩
      rw [lo] at hw hl
      simp -implicitDefEqProofs -dsimp [w_Lleast_t1]
      refine ⟨shaped_ints L, shaped_nil, ?_⟩
      cases L with
      | nil =>
        simp only [lI, List.map_nil, PyData.eqvAll, if_true]
        exact hR kvs _ _ _ _ _ (hb.skip (hw.nil (by omega)))
      | cons q0 Q =>
        obtain ⟨L, hLq⟩ : ∃ L, q0 :: Q = L := ⟨_, rfl⟩
        have l0' : 0 < L.length := by rw [← hLq]; simp
        have ne : PyData.eqvAll (lI (q0 :: Q)) [] ≠ true := by simp [lI, PyData.eqvAll]
        rw [if_neg ne]
        rw [hLq] at hl hw ⊢
        simp -implicitDefEqProofs -dsimp [w_Lleast_1]
        refine ⟨⟨_, _, rfl⟩, l0', fun m hm hm2 => ⟨eo, by omega, hR _ _ _ _ _ _ (hb.put no (hw.least (by omega) hm hm2))⟩⟩
    · rintro i δ hi ⟨L, c5, c6, c7, c8, rfl, hw, hl⟩ K B T hK
      (try simp -implicitDefEqProofs -dsimp)
      exact rd_Lleast_4 ho hb (by omega) hl hw fun L' c6 c7 c8 h1 h2 => hK _ ⟨L', _, _, _, _, rfl, h1, h2⟩
  simp -implicitDefEqProofs -dsimp [w_Lleast_6, -w_Lleast_s3_ap]
  refine ⟨shaped_intsT _, shaped_ks ks, ?_⟩
  have ev : ∀ x : List Int, (tI x).eqv (tI own) = decide (x = own) := fun x => eqvAll_ints x own
  by_cases c : own ∈ ks
  · rw [if_pos ⟨own, c, by rw [ev]; simp⟩]
    intro a2
    exact rest [1] a2 (by simp) ⟨fun m hm => by rw [List.mem_singleton.mp hm]; exact .one c, fun _ => by simp, fun a q m1 m2 ha q1 q2 q3 g1 g2 => by omega⟩
  · rw [if_neg fun ⟨x, hx, e⟩ => c (by rw [ev] at e; rw [← of_decide_eq_true e]; exact hx)]
    intro a2
    exact rest [] a2 (by simp) ⟨fun m hm => (by cases hm), fun h => absurd h c, fun a q m1 m2 ha q1 q2 q3 g1 g2 => by omega⟩
theorem rd_Lleast : ∀ cs R, sp_Lleast cs R → w_Lleast (endsOf cs R) (start0 9 cs) := by
  rintro _ R ⟨n, ks, bx, rfl, kb, hR⟩
  have uf := up_few kb.p kb.v
  have n1 := kb.kd.n1
  simp -implicitDefEqProofs -dsimp [w_Lleast]
  intro a1
  refine ask_of (sp := sp_Lsmaller) ⟨bx, rfl, by rw [kb.l]; omega, kb.p, by have := kb.v; omega, ?_⟩
  (try simp -implicitDefEqProofs -dsimp)
  refine for_pre (upF bx) tI rfl (fun pre δ => ∃ kvs c3 c4 c5 c6 c7 c8, δ = [.d (ksD ks), .d (tI bx), .od a1 kvs, c3, c4, c5, c6, c7, c8] ∧ BestI ks pre kvs) ⟨[], _, _, _, _, _, _, rfl, ⟨rfl, fun p hp => by cases hp⟩⟩ ?_ ?_
  · rintro δ ⟨kvs, c3, c4, c5, c6, c7, c8, rfl, hb⟩
    (try simp -implicitDefEqProofs -dsimp)
    exact hR kvs hb
  · rintro pre own post δ e ⟨kvs, c3, c4, c5, c6, c7, c8, rfl, hb⟩ K B T hK
    obtain ⟨ho, no⟩ := Own.of kb e
    have : pre.length ≤ (upF bx).length := by rw [e]; simp
    have := hb.few
    (try simp -implicitDefEqProofs -dsimp)
    exact rd_Lleast_6 ho no hb (by omega) fun kvs' c4 c5 c6 c7 c8 h => hK _ ⟨kvs', _, _, _, _, _, _, rfl, h⟩
theorem rd_Lsmall_box : ∀ cs R, sp_Lsmall_box cs R → w_Lsmall_box (endsOf cs R) (start0 7 cs) := by
  rintro _ R ⟨a1, a2, a3, n, ks, v, rfl, kd, v1, v4, hR⟩
  have n0 := kd.n0
  have n1 := kd.n1
  have k0 := kd.l0
  obtain ⟨k, Ks, rfl⟩ : ∃ k Ks, ks = k :: Ks := by
    cases ks with
    | nil => simp at k0
    | cons k Ks => exact ⟨k, Ks, rfl⟩
  have lk := kd.len k (by simp)
  simp -implicitDefEqProofs -dsimp [w_Lsmall_box]
  refine for_cntZ 0 9 (fun i δ => ∃ c4 c5, δ = [.dk a1 a2 a3, .d (ksD (k :: Ks)), .d (.int v), .d (.int (k.length : Int)), c4, c5, .em]) (fun _ => False) (endsOf [.dk a1 a2 a3, .d (ksD (k :: Ks)), .d (.int v)] R).rt ⟨_, _, rfl⟩ ?_ (fun _ h => h.elim) (fun _ _ h => h) ?_
  · rintro δ ⟨c4, c5, rfl⟩
    simp -implicitDefEqProofs -dsimp [w_Lsmall_box_t2]
    have e1 : List.replicate k.length (PyData.int 1) = lI (List.replicate k.length 1) := by unfold lI; simp
    rw [e1]
    exact ⟨by omega, hR _ (by simp [lk]) (fun x hx => by rw [List.eq_of_mem_replicate hx]; exact Int.le_refl _) (by rw [vol_ones]; exact v1)⟩
  · rintro i δ hi ⟨c4, c5, rfl⟩ K B T hK _ hT
    (try simp -implicitDefEqProofs -dsimp)
    have fin : ∀ ns : List Int, ns.length = n → In (10 ^ 13) ns → w_Lsmall_box_t1 { nx := K, rt := T, bk := B, ct := K } [.dk a1 a2 a3, .d (ksD (k :: Ks)), .d (.int v), .d (.int (k.length : Int)), .d (.int (i : Int)), .d (tI ns), .em] := fun ns ln hn => by
      simp -implicitDefEqProofs -dsimp [w_Lsmall_box_t1]
      refine ask_of (sp := sp_Lvolume) ⟨ns, rfl, fun x hx => by have := hn x hx; omega, ?_⟩
      (try simp -implicitDefEqProofs -dsimp)
      split
      · rename_i hv
        refine hT _ _ ?_
        (try simp -implicitDefEqProofs -dsimp)
        exact hR ns ln (fun x hx => (hn x hx).1) hv
      · exact hK _ ⟨_, _, rfl⟩
    have sd : ∃ m : Int, atI [PyData.int 40, .int 9, .int 5, .int 4] ((k.length : Int) - 1) = some (.int m) ∧ 1 ≤ m ∧ m ≤ 40 := by
      rw [lk]
      have : n = 1 ∨ n = 2 ∨ n = 3 ∨ n = 4 := by omega
      rcases this with rfl | rfl | rfl | rfl
      · exact ⟨40, rfl, by decide, by decide⟩
      · exact ⟨9, rfl, by decide, by decide⟩
      · exact ⟨5, rfl, by decide, by decide⟩
      · exact ⟨4, rfl, by decide, by decide⟩
    obtain ⟨m, em, m1, m2⟩ := sd
    simp -implicitDefEqProofs -dsimp [w_Lsmall_box_3, em]
    refine ask_of (sp := sp_Lsides) ⟨a1, a2, a3, _, _, rfl, by omega, by omega, by omega, by omega, fun ns ln hn => ?_⟩
    (try simp -implicitDefEqProofs -dsimp)
    refine ask_draw (by omega) (by omega) fun r r0 r1 => ?_
    (try simp -implicitDefEqProofs -dsimp)
    split
    · simp -implicitDefEqProofs -dsimp [w_Lsmall_box_1]
      refine ask_of (sp := sp_Lone) ⟨a1, a2, a3, _, _, rfl, rfl, by simp, by have := kd.l1; simp at this ⊢; omega, fun x hx => ?_⟩
      have hx : x ∈ (k :: Ks).map tI := hx
      obtain ⟨q, hq, rfl⟩ : ∃ q, q ∈ k :: Ks ∧ x = tI q := by
        obtain ⟨q, hq, e⟩ := List.mem_map.mp hx
        exact ⟨q, hq, e.symm⟩
      have lq := kd.len q hq
      have iq := kd.side q hq
      (try simp -implicitDefEqProofs -dsimp)
      refine com_of PyData.int (fun y => 1 ≤ y ∧ y ≤ 10 ^ 13) (fun y hy acc K2 hK2 => ?_) fun ms lm hm => ?_
      · obtain ⟨z, hz, rfl⟩ := List.mem_map.mp hy
        have := iq z hz
        (try simp -implicitDefEqProofs -dsimp)
        refine ask_draw (by omega) (by omega) fun t t0 t1 => ?_
        (try simp -implicitDefEqProofs -dsimp)
        have b1 := Int.mul_le_mul this.2 (show 1 + t ≤ 4 by omega) (by omega) (by omega)
        have b2 := Int.mul_le_mul this.1 (show 1 ≤ 1 + t by omega) (by omega) (by omega)
        exact ⟨cm_r (by omega), hK2 _ (by omega)⟩
      · rw [show ms.map PyData.int = lI ms from rfl]
        (try simp -implicitDefEqProofs -dsimp)
        exact fin ms (by rw [lm, List.length_map, lq]) hm
    · exact fin ns (by omega) fun x hx => by have := hn x hx; omega
end TW
set_option Elab.async false
set_option linter.all false
set_option maxRecDepth 100000
set_option maxHeartbeats 4000000
namespace K68
open PySem PySem.Spec PyProof.Rows L2 DL TW
/-- kinds and a box that are judged -/
def sp_Lright : DSp := fun cs R => ∃ (n : Nat) (ks : List (List Int)) (bx : List Int), cs = [.d (ksD ks), .d (tI bx)] ∧ KBx n ks bx ∧ R (.bool true) cs
def sp_Lwheel : DSp := fun cs R => ∃ (a b c : Addr), cs = [.dk a b c] ∧ ∀ (n : Nat) (ks : List (List Int)) (bx : List Int) (d : PyData), KBx n ks bx → 2 ≤ ks.length → R (.tuple [ksD ks, tI bx, d]) cs
abbrev sp_law : DSp := spLaw
def w_Lwheel_s1 : DTS := (wSet 4 (mL (wComp (iSeq (wVar 4)) (gT (gsCons (gN 9) (gsCons (gN 10) gsNil))) tT (wTup (wCons (wVar 9) (wCons (wOp pAddB (wVar 10) (wTup (wCons (wC (.int 0)) wNil))) wNil))) [9, 10])))
@[simp ↓] theorem w_Lwheel_s1_ap (E : DEnds) (δ : DS) : w_Lwheel_s1 E δ = (wSet 4 (mL (wComp (iSeq (wVar 4)) (gT (gsCons (gN 9) (gsCons (gN 10) gsNil))) tT (wTup (wCons (wVar 9) (wCons (wOp pAddB (wVar 10) (wTup (wCons (wC (.int 0)) wNil))) wNil))) [9, 10]))) E δ := rfl
def w_Lwheel_s2 : DTS := (wSeq (wPar2 3 5 (msCons (mE (wFn pTupOf (wCons (wOfL (wComp (iSeq (wVar 3)) (gN 8) tT (wOp pAddB (wVar 8) (wTup (wCons (wVar 7) wNil))) [8])) wNil))) (msCons (mE (wOp pAddB (wVar 5) (wTup (wCons (wVar 7) wNil)))) msNil))) w_Lwheel_s1)
@[simp ↓] theorem w_Lwheel_s2_ap (E : DEnds) (δ : DS) : w_Lwheel_s2 E δ = (wSeq (wPar2 3 5 (msCons (mE (wFn pTupOf (wCons (wOfL (wComp (iSeq (wVar 3)) (gN 8) tT (wOp pAddB (wVar 8) (wTup (wCons (wVar 7) wNil))) [8])) wNil))) (msCons (mE (wOp pAddB (wVar 5) (wTup (wCons (wVar 7) wNil)))) msNil))) w_Lwheel_s1) E δ := rfl
def w_Lwheel_1 : DTS := (wSeq (wSet 7 (mE (wOp pAddB (wC (.int 1)) (wCall [true, false] sp_Ldraw (wCons (wVar 0) (wCons (wC (.int 3)) wNil)))))) w_Lwheel_s2)
def w_Lwheel_t1 : DTS := (wRet (wTup (wCons (wVar 3) (wCons (wVar 5) (wCons (wFn pTupOf (wCons (wFn pSorted (wCons (wVar 4) wNil)) wNil)) wNil)))))
def w_Lwheel_s3 : DTS := (wSet 5 (mE (wTup (wCons (wOp pAddB (wVar 6) (wOp pIx (wOp pIx (wVar 3) (wC (.int 3))) (wC (.int 0)))) (wCons (wVar 6) wNil)))))
@[simp ↓] theorem w_Lwheel_s3_ap (E : DEnds) (δ : DS) : w_Lwheel_s3 E δ = (wSet 5 (mE (wTup (wCons (wOp pAddB (wVar 6) (wOp pIx (wOp pIx (wVar 3) (wC (.int 3))) (wC (.int 0)))) (wCons (wVar 6) wNil))))) E δ := rfl
def w_Lwheel_s4 : DTS := (wSeq (wAppend 4 (wTup (wCons (wC (.int 3)) (wCons (wTup (wCons (wVar 6) (wCons (wC (.int 0)) wNil))) wNil)))) w_Lwheel_s3)
@[simp ↓] theorem w_Lwheel_s4_ap (E : DEnds) (δ : DS) : w_Lwheel_s4 E δ = (wSeq (wAppend 4 (wTup (wCons (wC (.int 3)) (wCons (wTup (wCons (wVar 6) (wCons (wC (.int 0)) wNil))) wNil)))) w_Lwheel_s3) E δ := rfl
def w_Lwheel_3 : DTS := (wSeq (wSet 3 (mE (wOp pAddB (wVar 3) (wTup (wCons (wTup (wCons (wOp pAddB (wC (.int 1)) (wCall [true, false] sp_Ldraw (wCons (wVar 0) (wCons (wC (.int 2)) wNil)))) (wCons (wVar 6) wNil))) wNil))))) w_Lwheel_s4)
def w_Lwheel_t2 : DTS := (wSeq (wIf (wB (wOp pEq (wCall [true, false] sp_Ldraw (wCons (wVar 0) (wCons (wC (.int 2)) wNil))) (wC (.int 0)))) w_Lwheel_1 wNext) w_Lwheel_t1)
def w_Lwheel_s5 : DTS := (wSeq (wIf (wB (wOp pEq (wCall [true, false] sp_Ldraw (wCons (wVar 0) (wCons (wC (.int 2)) wNil))) (wC (.int 0)))) w_Lwheel_3 wNext) w_Lwheel_t2)
@[simp ↓] theorem w_Lwheel_s5_ap (E : DEnds) (δ : DS) : w_Lwheel_s5 E δ = (wSeq (wIf (wB (wOp pEq (wCall [true, false] sp_Ldraw (wCons (wVar 0) (wCons (wC (.int 2)) wNil))) (wC (.int 0)))) w_Lwheel_3 wNext) w_Lwheel_t2) E δ := rfl
def w_Lwheel_s6 : DTS := (wSeq (wPar2 5 6 (msCons (mE (wTup (wCons (wOp pAddB (wVar 1) (wVar 2)) (wCons (wOp pAddB (wVar 1) (wVar 2)) wNil)))) (msCons (mE (wOp pAddB (wVar 1) (wVar 2))) msNil))) w_Lwheel_s5)
@[simp ↓] theorem w_Lwheel_s6_ap (E : DEnds) (δ : DS) : w_Lwheel_s6 E δ = (wSeq (wPar2 5 6 (msCons (mE (wTup (wCons (wOp pAddB (wVar 1) (wVar 2)) (wCons (wOp pAddB (wVar 1) (wVar 2)) wNil)))) (msCons (mE (wOp pAddB (wVar 1) (wVar 2))) msNil))) w_Lwheel_s5) E δ := rfl
def w_Lwheel_s7 : DTS := (wSeq (wSet 4 (mL (wLst (wCons (wTup (wCons (wC (.int 0)) (wCons (wTup (wCons (wC (.int 0)) (wCons (wC (.int 0)) wNil))) wNil))) (wCons (wTup (wCons (wC (.int 1)) (wCons (wTup (wCons (wC (.int 0)) (wCons (wVar 2) wNil))) wNil))) (wCons (wTup (wCons (wC (.int 0)) (wCons (wTup (wCons (wVar 2) (wCons (wVar 1) wNil))) wNil))) (wCons (wTup (wCons (wC (.int 1)) (wCons (wTup (wCons (wVar 1) (wCons (wC (.int 0)) wNil))) wNil))) (wCons (wTup (wCons (wC (.int 2)) (wCons (wTup (wCons (wVar 1) (wCons (wVar 1) wNil))) wNil))) wNil)))))))) w_Lwheel_s6)
@[simp ↓] theorem w_Lwheel_s7_ap (E : DEnds) (δ : DS) : w_Lwheel_s7 E δ = (wSeq (wSet 4 (mL (wLst (wCons (wTup (wCons (wC (.int 0)) (wCons (wTup (wCons (wC (.int 0)) (wCons (wC (.int 0)) wNil))) wNil))) (wCons (wTup (wCons (wC (.int 1)) (wCons (wTup (wCons (wC (.int 0)) (wCons (wVar 2) wNil))) wNil))) (wCons (wTup (wCons (wC (.int 0)) (wCons (wTup (wCons (wVar 2) (wCons (wVar 1) wNil))) wNil))) (wCons (wTup (wCons (wC (.int 1)) (wCons (wTup (wCons (wVar 1) (wCons (wC (.int 0)) wNil))) wNil))) (wCons (wTup (wCons (wC (.int 2)) (wCons (wTup (wCons (wVar 1) (wCons (wVar 1) wNil))) wNil))) wNil)))))))) w_Lwheel_s6) E δ := rfl
def w_Lwheel_s8 : DTS := (wSeq (wSet 3 (mE (wTup (wCons (wTup (wCons (wVar 1) (wCons (wVar 2) wNil))) (wCons (wTup (wCons (wVar 2) (wCons (wVar 1) wNil))) (wCons (wTup (wCons (wOp pSubB (wVar 2) (wVar 1)) (wCons (wOp pSubB (wVar 2) (wVar 1)) wNil))) wNil)))))) w_Lwheel_s7)
@[simp ↓] theorem w_Lwheel_s8_ap (E : DEnds) (δ : DS) : w_Lwheel_s8 E δ = (wSeq (wSet 3 (mE (wTup (wCons (wTup (wCons (wVar 1) (wCons (wVar 2) wNil))) (wCons (wTup (wCons (wVar 2) (wCons (wVar 1) wNil))) (wCons (wTup (wCons (wOp pSubB (wVar 2) (wVar 1)) (wCons (wOp pSubB (wVar 2) (wVar 1)) wNil))) wNil)))))) w_Lwheel_s7) E δ := rfl
def w_Lwheel_s9 : DTS := (wSeq (wSet 2 (mE (wOp pAddB (wOp pAddB (wVar 1) (wC (.int 1))) (wCall [true, false] sp_Ldraw (wCons (wVar 0) (wCons (wC (.int 2)) wNil)))))) w_Lwheel_s8)
@[simp ↓] theorem w_Lwheel_s9_ap (E : DEnds) (δ : DS) : w_Lwheel_s9 E δ = (wSeq (wSet 2 (mE (wOp pAddB (wOp pAddB (wVar 1) (wC (.int 1))) (wCall [true, false] sp_Ldraw (wCons (wVar 0) (wCons (wC (.int 2)) wNil)))))) w_Lwheel_s8) E δ := rfl
def w_Lwheel : DTS := (wSeq (wSet 1 (mE (wOp pAddB (wC (.int 1)) (wCall [true, false] sp_Ldraw (wCons (wVar 0) (wCons (wC (.int 2)) wNil)))))) w_Lwheel_s9)
def w_Lright_t1 : DTS := (wRet (wAndV (wOp pIs (wCall [] sp_Lplan_error (wCons (wVar 0) (wCons (wVar 3) wNil))) (wC .none)) (wOp pEq (wFn pReprN (wCons (wOp pIx (wCall [] sp_Lplan_boxes (wCons (wVar 0) (wCons (wVar 3) wNil))) (wUn pNeg (wC (.int 1)))) wNil)) (wFn pReprN (wCons (wVar 1) wNil)))))
def w_Lright_t2 : DTS := (wSeq (wIf (wB (wOp pIs (wVar 3) (wC .none))) (wRet (wC (.bool true))) wNext) w_Lright_t1)
def w_Lright_s1 : DTS := (wSeq (wIf (wOr (wB (wOp pNe (wFn pReprN (wCons (wOfL (wLst (wCons (wCall [] sp_chopped (wCons (wVar 0) (wCons (wVar 1) wNil))) (wCons (wCall [] sp_chop (wCons (wVar 0) (wCons (wVar 1) wNil))) wNil)))) wNil)) (wFn pReprN (wCons (wOfL (wLst (wCons (wVar 2) (wCons (wVar 3) wNil)))) wNil)))) (wB (wOp pNe (wOp pIsNot (wVar 3) (wC .none)) (wVar 2)))) (wRet (wC (.bool false))) wNext) w_Lright_t2)
@[simp ↓] theorem w_Lright_s1_ap (E : DEnds) (δ : DS) : w_Lright_s1 E δ = (wSeq (wIf (wOr (wB (wOp pNe (wFn pReprN (wCons (wOfL (wLst (wCons (wCall [] sp_chopped (wCons (wVar 0) (wCons (wVar 1) wNil))) (wCons (wCall [] sp_chop (wCons (wVar 0) (wCons (wVar 1) wNil))) wNil)))) wNil)) (wFn pReprN (wCons (wOfL (wLst (wCons (wVar 2) (wCons (wVar 3) wNil)))) wNil)))) (wB (wOp pNe (wOp pIsNot (wVar 3) (wC .none)) (wVar 2)))) (wRet (wC (.bool false))) wNext) w_Lright_t2) E δ := rfl
def w_Lright : DTS := (wSeq (wPar2 2 3 (msCons (mE (wOp pInT (wVar 1) (wCall [] sp_Lleast (wCons (wVar 0) (wCons (wVar 1) wNil))))) (msCons (mE (wCall [] sp_chop (wCons (wVar 0) (wCons (wVar 1) wNil)))) msNil))) w_Lright_s1)
def w_law_s1 : DTS := (wRet (wOp pEq (wFn pReprN (wCons (wVar 9) wNil)) (wFn pReprN (wCons (wOfL (wLst (wCons (wC (.bool true)) (wCons (wC (.bool false)) (wCons (wC (.bool false)) wNil))))) wNil))))
@[simp ↓] theorem w_law_s1_ap (E : DEnds) (δ : DS) : w_law_s1 E δ = (wRet (wOp pEq (wFn pReprN (wCons (wVar 9) wNil)) (wFn pReprN (wCons (wOfL (wLst (wCons (wC (.bool true)) (wCons (wC (.bool false)) (wCons (wC (.bool false)) wNil))))) wNil)))) E δ := rfl
def w_law_s2 : DTS := (wSeq (wSet 9 (mE (wOfL (wLst (wCons (wCall [] sp_chopped (wCons (wVar 8) (wCons (wTup (wCons (wC (.int 5)) (wCons (wC (.int 5)) wNil))) wNil))) (wCons (wCall [] sp_chopped (wCons (wSl pSl (wVar 8) wNoP (wPart (wC (.int 2)))) (wCons (wTup (wCons (wC (.int 5)) (wCons (wC (.int 5)) wNil))) wNil))) (wCons (wCall [] sp_chopped (wCons (wTup (wCons (wTup (wCons (wC (.int 7)) wNil)) wNil)) (wCons (wTup (wCons (wC (.int 400)) wNil)) wNil))) wNil))))))) w_law_s1)
@[simp ↓] theorem w_law_s2_ap (E : DEnds) (δ : DS) : w_law_s2 E δ = (wSeq (wSet 9 (mE (wOfL (wLst (wCons (wCall [] sp_chopped (wCons (wVar 8) (wCons (wTup (wCons (wC (.int 5)) (wCons (wC (.int 5)) wNil))) wNil))) (wCons (wCall [] sp_chopped (wCons (wSl pSl (wVar 8) wNoP (wPart (wC (.int 2)))) (wCons (wTup (wCons (wC (.int 5)) (wCons (wC (.int 5)) wNil))) wNil))) (wCons (wCall [] sp_chopped (wCons (wTup (wCons (wTup (wCons (wC (.int 7)) wNil)) wNil)) (wCons (wTup (wCons (wC (.int 400)) wNil)) wNil))) wNil))))))) w_law_s1) E δ := rfl
def w_law_s3 : DTS := (wIf (wOr (wNot (wB (wCall [] sp_Lright (wCons (wOp pIx (wVar 7) (wC (.int 0))) (wCons (wOp pIx (wVar 7) (wC (.int 1))) wNil))))) (wNot (wB (wCall [] sp_Lright (wCons (wSl pSl (wOp pIx (wVar 7) (wC (.int 0))) wNoP (wPart (wC (.int 2)))) (wCons (wOp pIx (wVar 7) (wC (.int 1))) wNil)))))) (wRet (wC (.bool false))) wNext)
@[simp ↓] theorem w_law_s3_ap (E : DEnds) (δ : DS) : w_law_s3 E δ = (wIf (wOr (wNot (wB (wCall [] sp_Lright (wCons (wOp pIx (wVar 7) (wC (.int 0))) (wCons (wOp pIx (wVar 7) (wC (.int 1))) wNil))))) (wNot (wB (wCall [] sp_Lright (wCons (wSl pSl (wOp pIx (wVar 7) (wC (.int 0))) wNoP (wPart (wC (.int 2)))) (wCons (wOp pIx (wVar 7) (wC (.int 1))) wNil)))))) (wRet (wC (.bool false))) wNext) E δ := rfl
def w_law_t1 : DTS := (wSeq (wSet 7 (mE (wCall [true] sp_Lwheel (wCons (wVar 1) wNil)))) w_law_s3)
def w_law_s4 : DTS := (wSet 4 (mE (wCall [true, false] sp_Lone (wCons (wVar 1) (wCons (wOfL (wLst (wCons (wOp pAddB (wTup (wCons (wVar 5) wNil)) (wSl pSl (wVar 4) wNoP (wPart (wC (.int 3))))) (wCons (wOp pAddB (wSl pSl (wVar 4) wNoP (wPart (wC (.int 3)))) (wTup (wCons (wVar 5) wNil))) wNil)))) wNil)))))
@[simp ↓] theorem w_law_s4_ap (E : DEnds) (δ : DS) : w_law_s4 E δ = (wSet 4 (mE (wCall [true, false] sp_Lone (wCons (wVar 1) (wCons (wOfL (wLst (wCons (wOp pAddB (wTup (wCons (wVar 5) wNil)) (wSl pSl (wVar 4) wNoP (wPart (wC (.int 3))))) (wCons (wOp pAddB (wSl pSl (wVar 4) wNoP (wPart (wC (.int 3)))) (wTup (wCons (wVar 5) wNil))) wNil)))) wNil))))) E δ := rfl
def w_law_2 : DTS := (wSeq (wSet 5 (mE (wFn pTupOf (wCons (wOfL (wComp (iRange1 (wCons (wVar 3) wNil)) (gN 6) tT (wCall [true, false] sp_Lone (wCons (wVar 1) (wCons (wOfL (wLst (wCons (wC (.int 1)) (wCons (wC (.int 2)) (wCons (wOp pSubB (wOp pPow (wC (.int 10)) (wC (.int 12))) (wCall [true, false] sp_Ldraw (wCons (wVar 1) (wCons (wC (.int 9)) wNil)))) wNil))))) wNil))) [6])) wNil)))) w_law_s4)
def w_law_t2 : DTS := (wSeq (wIf (wNot (wB (wCall [] sp_Lright (wCons (wVar 4) (wCons (wCall [true, false, false] sp_Lsmall_box (wCons (wVar 1) (wCons (wVar 4) (wCons (wC (.int 200)) wNil)))) wNil))))) (wRet (wC (.bool false))) wNext) w_law_t1)
def w_law_s5 : DTS := (wSeq (wIf (wB (wOp pEq (wCall [true, false] sp_Ldraw (wCons (wVar 1) (wCons (wC (.int 3)) wNil))) (wC (.int 0)))) w_law_2 wNext) w_law_t2)
@[simp ↓] theorem w_law_s5_ap (E : DEnds) (δ : DS) : w_law_s5 E δ = (wSeq (wIf (wB (wOp pEq (wCall [true, false] sp_Ldraw (wCons (wVar 1) (wCons (wC (.int 3)) wNil))) (wC (.int 0)))) w_law_2 wNext) w_law_t2) E δ := rfl
def w_law_s6 : DTS := (wSeq (wSet 4 (mE (wCall [true, false, false, false] sp_Lkinds (wCons (wVar 1) (wCons (wVar 3) (wCons (wOp pAddB (wC (.int 1)) (wCall [true, false] sp_Ldraw (wCons (wVar 1) (wCons (wC (.int 4)) wNil)))) (wCons (wOp pIx (wOfL (wLst (wCons (wC (.int 9)) (wCons (wC (.int 4)) (wCons (wC (.int 3)) (wCons (wC (.int 2)) wNil)))))) (wOp pSubB (wVar 3) (wC (.int 1)))) wNil))))))) w_law_s5)
@[simp ↓] theorem w_law_s6_ap (E : DEnds) (δ : DS) : w_law_s6 E δ = (wSeq (wSet 4 (mE (wCall [true, false, false, false] sp_Lkinds (wCons (wVar 1) (wCons (wVar 3) (wCons (wOp pAddB (wC (.int 1)) (wCall [true, false] sp_Ldraw (wCons (wVar 1) (wCons (wC (.int 4)) wNil)))) (wCons (wOp pIx (wOfL (wLst (wCons (wC (.int 9)) (wCons (wC (.int 4)) (wCons (wC (.int 3)) (wCons (wC (.int 2)) wNil)))))) (wOp pSubB (wVar 3) (wC (.int 1)))) wNil))))))) w_law_s5) E δ := rfl
def w_law_4 : DTS := (wSeq (wSet 3 (mE (wOp pAddB (wC (.int 1)) (wCall [true, false] sp_Ldraw (wCons (wVar 1) (wCons (wC (.int 4)) wNil)))))) w_law_s6)
def w_law_t3 : DTS := (wSeq (wSet 8 (mE (wTup (wCons (wTup (wCons (wC (.int 2)) (wCons (wC (.int 3)) wNil))) (wCons (wTup (wCons (wC (.int 3)) (wCons (wC (.int 2)) wNil))) (wCons (wTup (wCons (wC (.int 1)) (wCons (wC (.int 1)) wNil))) wNil)))))) w_law_s2)
def w_law_s7 : DTS := (wSeq (wFor (iRange1 (wCons (wC (.int 9)) wNil)) (gN 2) w_law_4) w_law_t3)
@[simp ↓] theorem w_law_s7_ap (E : DEnds) (δ : DS) : w_law_s7 E δ = (wSeq (wFor (iRange1 (wCons (wC (.int 9)) wNil)) (gN 2) w_law_4) w_law_t3) E δ := rfl
def w_law : DTS := (wSeq (wSet 1 (wCallM [true] sp_Ldeck (wCons (wVar 0) wNil))) w_law_s7)
theorem ln_Lwheel : ∀ cs R, sp_Lwheel cs R → cs.length = 1 := by
  intro cs R h
  unfold sp_Lwheel at h
  repeat (obtain ⟨_, h⟩ := h)
  subst_vars; rfl
theorem ln_Lright : ∀ cs R, sp_Lright cs R → cs.length = 2 := by
  intro cs R h
  unfold sp_Lright at h
  repeat (obtain ⟨_, h⟩ := h)
  subst_vars; rfl
theorem ln_law : ∀ cs R, sp_law cs R → cs.length = 1 := by
  intro cs R h
  unfold sp_law at h
  repeat (obtain ⟨_, h⟩ := h)
  subst_vars; rfl
end K68
set_option Elab.async false
set_option linter.all false
set_option maxRecDepth 100000
set_option maxHeartbeats 4000000
namespace K68
open PySem PySem.Spec PyProof.Rows L2 DL TW
theorem pln_pl {n : Nat} {ks : List (List Int)} {bx : List Int} {m : Int} {rs : List TW.Row} (h : Pln n ks bx m rs) (kd : Kd n ks) : Pl n ks rs := ⟨kd, h.val, h.l0, by have := h.l1; omega⟩
theorem shp_side {bx : List Int} (hl : bx.length ≤ 4) (h1 : ∀ x ∈ bx, 1 ≤ x) (hv : vol bx ≤ 400) : Shp false 1 300 (tI bx) :=
  (Shp.tuple (shp_ints (k := 20) (L := 4) hl fun x hx => by
    have := vol_in h1 hv x hx
    by_cases z : x.natAbs = 0
    · rw [z]; decide
    · have : x.natAbs.log2 < 21 := (Nat.log2_lt z).mpr (by omega)
      omega)).mono (by decide) (by decide)
theorem shp_b (b : Bool) : Shp false 0 20 (.bool b) := (Shp.bool (z := false) (n := 0)).mono (by decide) (by decide)
theorem rd_Lright : ∀ cs R, sp_Lright cs R → w_Lright (endsOf cs R) (start0 4 cs) := by
  rintro _ R ⟨n, ks, bx, rfl, kb, hR⟩
  have kd := kb.kd
  have hm : bx ∈ upF bx := mem_up.mpr ⟨rfl, fun i hi => ⟨kb.p _ (gi_mem hi), Int.le_refl _⟩⟩
  have neb : bx ≠ [] := fun e => by have := kb.l; have := kb.kd.n0; rw [e] at *; simp at *; omega
  simp -implicitDefEqProofs -dsimp [w_Lright]
  refine ask_of (sp := sp_Lleast) ⟨n, ks, bx, rfl, kb, fun kvs hb => ?_⟩
  (try simp -implicitDefEqProofs -dsimp)
  refine ⟨neb, ?_⟩
  refine ask_of (sp := sp_chop) ⟨n, ks, bx, rfl, kb, fun nc => ?_, fun m pl => ?_⟩
  · rcases hb.at hm with ⟨g, _⟩ | ⟨m, g, lm⟩
    · have gs : (valD kvs bx).isSome = false := by rw [g]; rfl
      rw [gs]
      (try simp -implicitDefEqProofs -dsimp)
      refine ask_of (sp := sp_chopped) ⟨n, ks, bx, rfl, kb, fun r hr => ?_⟩
      have er : r = false := by
        cases r
        · rfl
        · exact absurd (hr.mp rfl) nc
      subst er
      (try simp -implicitDefEqProofs -dsimp)
      refine ask_of (sp := sp_chop) ⟨n, ks, bx, rfl, kb, fun _ => ?_, fun m pl => absurd pl.lst.can nc⟩
      (try simp -implicitDefEqProofs -dsimp)
      have s0 : Shp false 1 200 (.list [.bool false, .none]) := (Shp.list (ShpL.cons (shp_b false) (ShpL.cons Shp.none ShpL.nil))).mono (by decide) (by decide)
      refine s0.repr (s0.repr ?_)
      simp -implicitDefEqProofs -dsimp [w_Lright_t2]
      exact hR
    · exact absurd lm.can nc
  · rcases hb.at hm with ⟨_, nc⟩ | ⟨m2, g, lm⟩
    · exact absurd pl.lst.can nc
    · have pp := pln_pl pl kd
      obtain ⟨rs, hrs⟩ : ∃ rs, fewR ks bx = rs := ⟨_, rfl⟩
      rw [hrs] at pl pp ⊢
      have gs : (valD kvs bx).isSome = true := by rw [g]; rfl
      rw [gs]
      (try simp -implicitDefEqProofs -dsimp)
      refine ask_of (sp := sp_chopped) ⟨n, ks, bx, rfl, kb, fun r hr => ?_⟩
      have er : r = true := hr.mpr pl.lst.can
      subst er
      (try simp -implicitDefEqProofs -dsimp)
      refine ask_of (sp := sp_chop) ⟨n, ks, bx, rfl, kb, fun nc => absurd pl.lst.can nc, fun m3 pl3 => ?_⟩
      rw [hrs]
      (try simp -implicitDefEqProofs -dsimp)
      have s1 : Shp false 3 2000000 (.list [.bool true, rowsD rs]) := (Shp.list (ShpL.cons ((shp_b true).mono (show 0 ≤ 2 by decide) (Nat.le_refl 20)) (ShpL.cons (shp_rowsC pp) ShpL.nil))).mono (by decide) (by decide)
      refine s1.repr (s1.repr ?_)
      simp -implicitDefEqProofs -dsimp [w_Lright_t2, w_Lright_t1]
      have pA : planA ks n (rowsD rs) = .none := by
        show (if 1 ≤ (rs.map TW.Row.d).length ∧ (rs.map TW.Row.d).length ≤ 1000 then encP (planE ks n [] (rs.map TW.Row.d)) else _) = _
        have l0 := pl.l0
        have l1 := pl.l1
        rw [if_pos (by rw [List.length_map]; omega), planE_good rs [] pl.val fun b hb' => ?_]
        · rfl
        · have := pl.small b hb'
          obtain ⟨z1, z2⟩ := mem_up.mp this
          refine ⟨by rw [z1, kb.l], fun x hx => ?_⟩
          obtain ⟨i, hi, rfl⟩ := List.mem_iff_getElem.mp hx
          have := z2 i (by omega)
          rw [gi_get hi] at this
          have := vol_side1 kb.p (i := i) (by omega) kb.v
          omega
      refine ask_of (sp := sp_Lplan_error) ⟨n, ks, _, rfl, kd, ?_⟩
      rw [pA]
      (try simp -implicitDefEqProofs -dsimp)
      refine ask_of (sp := sp_Lplan_boxes) ⟨n, ks, rs, rfl, pp, ?_⟩
      have lB : (boxesR ks [] rs).length = rs.length := by rw [boxesR_len]; simp
      have lst : (boxesR ks [] rs).getLast? = some bx := by
        rw [get_last lB pl.l0, pl.last]
      simp -implicitDefEqProofs -dsimp [lst]
      have sb := shp_side (bx := bx) (by rw [kb.l]; exact kd.n1) kb.p kb.v
      refine sb.repr (sb.repr ?_)
      (try simp -implicitDefEqProofs -dsimp)
      exact hR
theorem rd_Lwheel_t1 {R : PyData → List Cell → Prop} {a1 a2 a3 a : Addr} {n : Nat} {ks : List (List Int)} {bx : List Int} {L : List (Nat × List Int)} {c1 c2 c6 c7 c8 c9 c10 : Cell} (kb : KBx n ks bx) (k2 : 2 ≤ ks.length) (hL : L.length ≤ 10)
    (hR : ∀ (n : Nat) (ks : List (List Int)) (bx : List Int) (d : PyData), KBx n ks bx → 2 ≤ ks.length → R (.tuple [ksD ks, tI bx, d]) [.dk a1 a2 a3]) :
    w_Lwheel_t1 (endsOf [.dk a1 a2 a3] R) [.dk a1 a2 a3, c1, c2, .d (ksD ks), .ol a (L.map plD), .d (tI bx), c6, c7, c8, c9, c10] := by
  obtain ⟨s1, s2, s3⟩ := srt_pl L
  simp -implicitDefEqProofs -dsimp [w_Lwheel_t1]
  exact ⟨s1, s2, by omega, fun d x x1 h e => s3 d (e ▸ List.mem_map.mpr ⟨_, h, rfl⟩), hR n ks bx _ kb k2⟩
theorem rd_Lwheel_t2 {R : PyData → List Cell → Prop} {a1 a2 a3 a : Addr} {ks : List (List Int)} {bx : List Int} {L : List (Nat × List Int)} {c1 c2 c6 : Cell} (kd : Kd 2 ks) (lb : bx.length = 2) (pb : ∀ x ∈ bx, 1 ≤ x) (vb : vol bx ≤ 100) (k2 : 2 ≤ ks.length) (hL : L.length ≤ 10) (hc : ∀ p ∈ L, p.2.length = 2)
    (hR : ∀ (n : Nat) (ks : List (List Int)) (bx : List Int) (d : PyData), KBx n ks bx → 2 ≤ ks.length → R (.tuple [ksD ks, tI bx, d]) [.dk a1 a2 a3]) :
    w_Lwheel_t2 (endsOf [.dk a1 a2 a3] R) [.dk a1 a2 a3, c1, c2, .d (ksD ks), .ol a (L.map plD), .d (tI bx), c6, .em, .em, .em, .em] := by
  simp -implicitDefEqProofs -dsimp [w_Lwheel_t2]
  refine ask_draw (by omega) (by omega) fun r r0 r1 => ?_
  (try simp -implicitDefEqProofs -dsimp)
  split
  · simp -implicitDefEqProofs -dsimp [w_Lwheel_1]
    refine ask_draw (by omega) (by omega) fun z z0 z1 => ?_
    (try simp -implicitDefEqProofs -dsimp)
    have g : ∀ (b : List Int) (y : Int), lI b ++ [PyData.int y] = lI (b ++ [y]) := fun b y => by unfold lI; simp
    refine com_map ks tI rfl (fun b => some (tI (b ++ [1 + z]))) (fun b hb acc K hK => ?_) ?_
    · have := kd.len b hb
      (try simp -implicitDefEqProofs -dsimp)
      rw [g]
      exact ⟨by omega, hK⟩
    rw [List.filterMap_eq_map', show ks.map (fun b => tI (b ++ [1 + z])) = lT (ks.map fun b => b ++ [1 + z]) by unfold lT; rw [List.map_map]; rfl]
    have kd3 : Kd 3 (ks.map fun b => b ++ [1 + z]) := by
      have all : ∀ k ∈ ks.map (fun b => b ++ [1 + z]), k.length = 3 ∧ In (10 ^ 12) k := fun k hk => by
        obtain ⟨b, hb, rfl⟩ := List.mem_map.mp hk
        refine ⟨by rw [List.length_append, kd.len b hb]; rfl, fun x hx => ?_⟩
        rcases List.mem_append.mp hx with q | q
        · exact kd.side b hb x q
        · rw [List.mem_singleton.mp q]; omega
      exact ⟨by rw [List.length_map]; exact kd.l0, by rw [List.length_map]; exact kd.l1, by omega, by omega, fun k hk => (all k hk).1, fun k hk => (all k hk).2⟩
    have k3 : 2 ≤ (ks.map fun b => b ++ [1 + z]).length := by rw [List.length_map]; exact k2
    have kb3 : KBx 3 (ks.map fun b => b ++ [1 + z]) (bx ++ [1 + z]) := by
      refine ⟨kd3, by rw [List.length_append, lb]; rfl, fun x hx => ?_, ?_⟩
      · rcases List.mem_append.mp hx with q | q
        · exact pb x q
        · rw [List.mem_singleton.mp q]; omega
      · rw [vol_app]
        have v0 : 0 ≤ vol bx := by have := vol_pos pb; omega
        have := Int.mul_le_mul vb (show 1 + z ≤ 3 by omega) (by omega) (by omega)
        omega
    generalize (ks.map fun b => b ++ [1 + z]) = K3 at kd3 k3 kb3 ⊢
    (try simp -implicitDefEqProofs -dsimp)
    rw [g]
    refine ⟨by omega, ?_⟩
    generalize bx ++ [1 + z] = B3 at kb3 ⊢
    refine com_map L plD rfl (fun p => some (plD (p.1, p.2 ++ [0]))) (fun p hp acc K hK => ?_) ?_
    · have := hc p hp
      unfold plD at hK ⊢
      (try simp -implicitDefEqProofs -dsimp)
      rw [g]
      exact ⟨by omega, hK⟩
    rw [List.filterMap_eq_map', show L.map (fun p => plD (p.1, p.2 ++ [0])) = (L.map fun p => (p.1, p.2 ++ [0])).map plD by rw [List.map_map]; rfl]
    have l3 : (L.map fun p => (p.1, p.2 ++ [0])).length ≤ 10 := by rw [List.length_map]; exact hL
    generalize (L.map fun p => (p.1, p.2 ++ [0])) = L3 at l3 ⊢
    (try simp -implicitDefEqProofs -dsimp)
    intro a5
    exact rd_Lwheel_t1 kb3 k3 l3 hR
  · exact rd_Lwheel_t1 ⟨kd, lb, pb, by omega⟩ k2 hL hR
theorem rd_Lwheel : ∀ cs R, sp_Lwheel cs R → w_Lwheel (endsOf cs R) (start0 11 cs) := by
  rintro _ R ⟨a1, a2, a3, rfl, hR⟩
  simp -implicitDefEqProofs -dsimp [w_Lwheel, -w_Lwheel_s5_ap]
  refine ask_draw (by omega) (by omega) fun s0 s1 s2 => ?_
  simp -implicitDefEqProofs -dsimp [-w_Lwheel_s5_ap]
  refine ask_draw (by omega) (by omega) fun g0 g1 g2 => ?_
  simp -implicitDefEqProofs -dsimp [-w_Lwheel_s5_ap]
  obtain ⟨s, hs, p1, p2⟩ : ∃ s : Int, 1 + s0 = s ∧ 1 ≤ s ∧ s ≤ 2 := ⟨_, rfl, by omega, by omega⟩
  obtain ⟨g, hg, q1, q2⟩ : ∃ g : Int, 1 + s0 + 1 + g0 = g ∧ s + 1 ≤ g ∧ g ≤ s + 2 := ⟨_, rfl, by omega, by omega⟩
  have eg : 1 + s0 + 1 + g0 - (1 + s0) = g - s := by omega
  rw [eg, hg, hs]
  intro a
  have kd : ∀ w : List (List Int), (w = [] ∨ ∃ y : Int, w = [[y, s + g]] ∧ 1 ≤ y ∧ y ≤ 2) → Kd 2 ([[s, g], [g, s], [g - s, g - s]] ++ w) := fun w hw => by
    have all : ∀ k ∈ [[s, g], [g, s], [g - s, g - s]] ++ w, k.length = 2 ∧ In (10 ^ 12) k := fun k hk => by
      have two : ∀ x y : Int, (1 ≤ x ∧ x ≤ 100) → (1 ≤ y ∧ y ≤ 100) → [x, y].length = 2 ∧ In (10 ^ 12) [x, y] := fun x y hx hy => ⟨rfl, fun z hz => by
        simp only [List.mem_cons, List.not_mem_nil, or_false] at hz
        rcases hz with rfl | rfl <;> omega⟩
      rcases List.mem_append.mp hk with q | q
      · simp only [List.mem_cons, List.not_mem_nil, or_false] at q
        rcases q with rfl | rfl | rfl
        · exact two _ _ (by omega) (by omega)
        · exact two _ _ (by omega) (by omega)
        · exact two _ _ (by omega) (by omega)
      · rcases hw with rfl | ⟨y, rfl, y1, y2⟩
        · cases q
        · rw [List.mem_singleton.mp q]
          exact two _ _ (by omega) (by omega)
    have lw : w.length ≤ 1 := by rcases hw with rfl | ⟨y, rfl, _⟩ <;> simp
    exact ⟨by simp, by rw [List.length_append]; simp; omega, by omega, by omega, fun k hk => (all k hk).1, fun k hk => (all k hk).2⟩
  obtain ⟨L, hL, lL, cL⟩ : ∃ L : List (Nat × List Int), [PyData.tuple [.int 0, .tuple [.int 0, .int 0]], .tuple [.int 1, .tuple [.int 0, .int g]], .tuple [.int 0, .tuple [.int g, .int s]], .tuple [.int 1, .tuple [.int s, .int 0]], .tuple [.int 2, .tuple [.int s, .int s]]] = L.map plD ∧ L.length = 5 ∧ ∀ p ∈ L, p.2.length = 2 :=
    ⟨[(0, [0, 0]), (1, [0, g]), (0, [g, s]), (1, [s, 0]), (2, [s, s])], rfl, rfl, fun p hp => by
      simp only [List.mem_cons, List.not_mem_nil, or_false] at hp
      rcases hp with rfl | rfl | rfl | rfl | rfl <;> rfl⟩
  rw [hL]
  (try simp -implicitDefEqProofs -dsimp)
  refine ask_draw (by omega) (by omega) fun r r0 r1 => ?_
  (try simp -implicitDefEqProofs -dsimp)
  split
  · simp -implicitDefEqProofs -dsimp [w_Lwheel_3]
    refine ask_draw (by omega) (by omega) fun y y0 y1 => ?_
    (try simp -implicitDefEqProofs -dsimp)
    have eL : L.map plD ++ [.tuple [.int 3, .tuple [.int (s + g), .int 0]]] = (L ++ [(3, [s + g, 0])]).map plD := by rw [List.map_append]; rfl
    rw [eL]
    refine ⟨⟨a, _, rfl⟩, by omega, ?_⟩
    refine rd_Lwheel_t2 (ks := [[s, g], [g, s], [g - s, g - s], [1 + y, s + g]]) (bx := [s + g + (1 + y), s + g]) (by have := kd [[1 + y, s + g]] (.inr ⟨1 + y, rfl, by omega, by omega⟩); simpa using this) rfl (fun x hx => ?_) ?_ (by simp) (by rw [List.length_append]; simp; omega) (fun p hp => ?_) hR
    · simp only [List.mem_cons, List.not_mem_nil, or_false] at hx
      rcases hx with rfl | rfl <;> omega
    · have := Int.mul_le_mul (show s + g + (1 + y) ≤ 8 by omega) (show s + g ≤ 6 by omega) (by omega) (by omega)
      show 1 * (s + g + (1 + y)) * (s + g) ≤ 100
      rw [Int.one_mul]
      omega
    · rcases List.mem_append.mp hp with q | q
      · exact cL p q
      · rw [List.mem_singleton.mp q]; rfl
  · refine rd_Lwheel_t2 (ks := [[s, g], [g, s], [g - s, g - s]]) (bx := [s + g, s + g]) (by have := kd [] (.inl rfl); simpa using this) rfl (fun x hx => ?_) ?_ (by simp) (by omega) cL hR
    · simp only [List.mem_cons, List.not_mem_nil, or_false] at hx
      rcases hx with rfl | rfl <;> omega
    · have := Int.mul_le_mul (show s + g ≤ 6 by omega) (show s + g ≤ 6 by omega) (by omega) (by omega)
      show 1 * (s + g) * (s + g) ≤ 100
      rw [Int.one_mul]
      omega
theorem can_row {ks : List (List Int)} (h : [1, 1] ∈ ks) : ∀ k : Nat, Can ks [1, (k : Int) + 1]
  | 0 => ⟨1, .one h⟩
  | k + 1 => by
    obtain ⟨m, hm⟩ := can_row h k
    have := Chop.cut (b := [1, ((k + 1 : Nat) : Int) + 1]) (ax := 1) (k := (k : Int) + 1) (m1 := m) (m2 := 1) (by simp) (by omega) (by show (k : Int) + 1 < ((k + 1 : Nat) : Int) + 1; omega) hm (by
      have e : ([1, ((k + 1 : Nat) : Int) + 1] : List Int).set 1 (gi [1, ((k + 1 : Nat) : Int) + 1] 1 - ((k : Int) + 1)) = [1, 1] := by
        show [1, (((k + 1 : Nat) : Int) + 1) - ((k : Int) + 1)] = [1, 1]
        congr 2
        omega
      rw [e]; exact .one h)
    exact ⟨_, this⟩
theorem can_box {ks : List (List Int)} (h : [1, 1] ∈ ks) (k : Nat) : ∀ j : Nat, Can ks [(j : Int) + 1, (k : Int) + 1]
  | 0 => can_row h k
  | j + 1 => by
    obtain ⟨m, hm⟩ := can_box h k j
    obtain ⟨m2, hm2⟩ := can_row h k
    have := Chop.cut (b := [((j + 1 : Nat) : Int) + 1, (k : Int) + 1]) (ax := 0) (k := (j : Int) + 1) (m1 := m) (m2 := m2) (by simp) (by omega) (by show (j : Int) + 1 < ((j + 1 : Nat) : Int) + 1; omega) hm (by
      have e : ([((j + 1 : Nat) : Int) + 1, (k : Int) + 1] : List Int).set 0 (gi [((j + 1 : Nat) : Int) + 1, (k : Int) + 1] 0 - ((j : Int) + 1)) = [1, (k : Int) + 1] := by
        show [(((j + 1 : Nat) : Int) + 1) - ((j : Int) + 1), (k : Int) + 1] = [1, (k : Int) + 1]
        congr 1
        omega
      rw [e]; exact hm2)
    exact ⟨_, this⟩
theorem kd_small {n : Nat} {ks : List (List Int)} (h0 : 0 < ks.length) (h1 : ks.length ≤ 4) (n0 : 0 < n) (n1 : n ≤ 4) (h : ∀ k ∈ ks, k.length = n ∧ ∀ x ∈ k, 1 ≤ x ∧ x ≤ 100) : Kd n ks := ⟨h0, h1, n0, n1, fun k hk => (h k hk).1, fun k hk x hx => by have := (h k hk).2 x hx; omega⟩
theorem kd_put {n : Nat} {ks : List (List Int)} {b : List Int} (h : Kd n ks) (hl : b.length = n) (hb : In (10 ^ 12) b) : Kd n (ks.take 3 ++ [b]) ∧ Kd n (b :: ks.take 3) := by
  have one : ∀ k ∈ ks.take 3, k.length = n ∧ In (10 ^ 12) k := fun k q => ⟨h.len k (List.mem_of_mem_take q), h.side k (List.mem_of_mem_take q)⟩
  have a1 : ∀ k ∈ ks.take 3 ++ [b], k.length = n ∧ In (10 ^ 12) k := fun k hk => by
    rcases List.mem_append.mp hk with q | q
    · exact one k q
    · rw [List.mem_singleton.mp q]; exact ⟨hl, hb⟩
  have a2 : ∀ k ∈ b :: ks.take 3, k.length = n ∧ In (10 ^ 12) k := fun k hk => by
    rcases List.mem_cons.mp hk with rfl | q
    · exact ⟨hl, hb⟩
    · exact one k q
  exact ⟨⟨by simp, by rw [List.length_append, List.length_take]; simp; omega, h.n0, h.n1, fun k hk => (a1 k hk).1, fun k hk => (a1 k hk).2⟩,
    ⟨by simp, by rw [List.length_cons, List.length_take]; omega, h.n0, h.n1, fun k hk => (a2 k hk).1, fun k hk => (a2 k hk).2⟩⟩
theorem rd_law_t3 {R : PyData → List Cell → Prop} {a : Addr} {ns : List Int} {c1 c2 c3 c4 c5 c6 c7 c8 c9 : Cell} (hR : ∀ cs', R (.bool true) cs') : w_law_t3 (endsOf [.scr a ns] R) [.scr a ns, c1, c2, c3, c4, c5, c6, c7, c8, c9] := by
  have kA : KBx 2 [[2, 3], [3, 2], [1, 1]] [5, 5] := ⟨kd_small (by decide) (by decide) (by decide) (by decide) (by decide), rfl, by decide, by decide⟩
  have kB : KBx 2 [[2, 3], [3, 2]] [5, 5] := ⟨kd_small (by decide) (by decide) (by decide) (by decide) (by decide), rfl, by decide, by decide⟩
  have kC : KBx 1 [[7]] [400] := ⟨kd_small (by decide) (by decide) (by decide) (by decide) (by decide), rfl, by decide, by decide⟩
  have cA : Can [[2, 3], [3, 2], [1, 1]] [5, 5] := can_box (by simp) 4 4
  have cB : ¬ Can [[2, 3], [3, 2]] [5, 5] := fun ⟨m, hm⟩ => by
    have := hm.vol (v := 6) (by decide)
    have e : vol [5, 5] = 25 := by decide
    rw [e] at this
    omega
  have cC : ¬ Can [[7]] [400] := fun ⟨m, hm⟩ => by
    have := hm.vol (v := 7) (by decide)
    have e : vol [400] = 400 := by decide
    rw [e] at this
    omega
  simp -implicitDefEqProofs -dsimp [w_law_t3]
  refine ask_of (sp := sp_chopped) ⟨2, [[2, 3], [3, 2], [1, 1]], [5, 5], rfl, kA, fun r1 h1 => ?_⟩
  rw [h1.mpr cA]
  (try simp -implicitDefEqProofs -dsimp)
  have e2 : DL.cutD [PyData.tuple [.int 2, .int 3], .tuple [.int 3, .int 2], .tuple [.int 1, .int 1]] none (some 2) = [.tuple [.int 2, .int 3], .tuple [.int 3, .int 2]] := rfl
  rw [e2]
  refine ask_of (sp := sp_chopped) ⟨2, [[2, 3], [3, 2]], [5, 5], rfl, kB, fun r2 h2 => ?_⟩
  have f2 : r2 = false := by
    cases r2
    · rfl
    · exact absurd (h2.mp rfl) cB
  rw [f2]
  (try simp -implicitDefEqProofs -dsimp)
  refine ask_of (sp := sp_chopped) ⟨1, [[7]], [400], rfl, kC, fun r3 h3 => ?_⟩
  have f3 : r3 = false := by
    cases r3
    · rfl
    · exact absurd (h3.mp rfl) cC
  rw [f3]
  (try simp -implicitDefEqProofs -dsimp)
  have s1 : Shp false 1 400 (.list [.bool true, .bool false, .bool false]) := (Shp.list (ShpL.cons (shp_b true) (ShpL.cons (shp_b false) (ShpL.cons (shp_b false) ShpL.nil)))).mono (by decide) (by decide)
  refine s1.repr (s1.repr ?_)
  (try simp -implicitDefEqProofs -dsimp)
  exact hR _
theorem rd_law : ∀ cs R, sp_law cs R → w_law (endsOf cs R) (start0 10 cs) := by
  rintro _ R ⟨a, ns, rfl, hR⟩
  simp -implicitDefEqProofs -dsimp [w_law]
  refine ask_deck fun a1 a2 a3 => ?_
  (try simp -implicitDefEqProofs -dsimp)
  refine for_cnt 0 9 (fun i δ => ∃ c2 c3 c4 c5 c7 c8 c9, δ = [.scr a ns, .dk a1 a2 a3, c2, c3, c4, c5, .em, c7, c8, c9]) ⟨_, _, _, _, _, _, _, rfl⟩ ?_ ?_
  · rintro δ ⟨c2, c3, c4, c5, c7, c8, c9, rfl⟩
    exact rd_law_t3 hR
  · rintro i δ hi ⟨c2, c3, c4, c5, c7, c8, c9, rfl⟩ K B T hK
    simp -implicitDefEqProofs -dsimp [w_law_4]
    refine ask_draw (by omega) (by omega) fun n0 n1 n2 => ?_
    obtain ⟨n, hn, nl, nh⟩ : ∃ n : Nat, 1 + n0 = (n : Int) ∧ 1 ≤ n ∧ n ≤ 4 := ⟨(1 + n0).toNat, by omega⟩
    simp -implicitDefEqProofs -dsimp [hn]
    refine ask_draw (by omega) (by omega) fun m0 m1 m2 => ?_
    have sd : ∃ m : Int, atI [PyData.int 9, .int 4, .int 3, .int 2] ((n : Int) - 1) = some (.int m) ∧ 1 ≤ m ∧ m ≤ 9 := by
      have : n = 1 ∨ n = 2 ∨ n = 3 ∨ n = 4 := by omega
      rcases this with rfl | rfl | rfl | rfl
      · exact ⟨9, rfl, by decide, by decide⟩
      · exact ⟨4, rfl, by decide, by decide⟩
      · exact ⟨3, rfl, by decide, by decide⟩
      · exact ⟨2, rfl, by decide, by decide⟩
    obtain ⟨s, es, s1, s2⟩ := sd
    have es2 : atI [PyData.int 9, .int 4, .int 3, .int 2] n0 = some (.int s) := by rw [← es]; congr 1; omega
    simp -implicitDefEqProofs -dsimp [hn, es, es2]
    refine ask_of (sp := sp_Lkinds) ⟨a1, a2, a3, (n : Int), 1 + m0, s, rfl, by omega, by omega, by omega, by omega, by omega, by omega, fun ks lk hk => ?_⟩
    have kd0 : Kd n ks := ⟨by omega, by omega, by omega, nh, fun k hk' => by have := (hk k hk').1; omega, fun k hk' x hx => by have := (hk k hk').2 x hx; omega⟩
    have t2 : ∀ (ks : List (List Int)) c5, Kd n ks → w_law_t2 { nx := K, rt := T, bk := B, ct := K } [.scr a ns, .dk a1 a2 a3, .d (.int (i : Int)), .d (.int (1 + n0)), .d (ksD ks), c5, .em, c7, c8, c9] := fun ks c5 kd => by
      simp -implicitDefEqProofs -dsimp [w_law_t2]
      refine ask_of (sp := sp_Lsmall_box) ⟨a1, a2, a3, n, ks, _, rfl, kd, by omega, by omega, fun bx lb pb vb => ?_⟩
      (try simp -implicitDefEqProofs -dsimp)
      refine ask_of (sp := sp_Lright) ⟨n, ks, bx, rfl, ⟨kd, lb, pb, by omega⟩, ?_⟩
      simp -implicitDefEqProofs -dsimp [w_law_t1]
      refine ask_of (sp := sp_Lwheel) ⟨a1, a2, a3, rfl, fun n2 K2 b2 d2 kb2 k2 => ?_⟩
      (try simp -implicitDefEqProofs -dsimp)
      refine ask_of (sp := sp_Lright) ⟨n2, K2, b2, rfl, kb2, ?_⟩
      (try simp -implicitDefEqProofs -dsimp)
      have e2 : DL.cutD (lT K2) none (some 2) = lT (K2.take 2) := by
        have := cutD_take (lT K2) 2
        rw [show DL.cutD (lT K2) none (some 2) = (lT K2).take 2 from this]
        unfold lT
        rw [List.map_take]
      rw [e2]
      have kd2 := kb2.kd
      have kt : Kd n2 (K2.take 2) := ⟨by rw [List.length_take]; omega, by rw [List.length_take]; omega, kd2.n0, kd2.n1, fun k hk => kd2.len k (List.mem_of_mem_take hk), fun k hk => kd2.side k (List.mem_of_mem_take hk)⟩
      refine ask_of (sp := sp_Lright) ⟨n2, K2.take 2, b2, rfl, ⟨kt, kb2.l, kb2.p, kb2.v⟩, ?_⟩
      (try simp -implicitDefEqProofs -dsimp)
      exact hK _ ⟨_, _, _, _, _, _, _, rfl⟩
    (try simp -implicitDefEqProofs -dsimp)
    refine ask_draw (by omega) (by omega) fun r r0 r1 => ?_
    (try simp -implicitDefEqProofs -dsimp)
    split
    · simp -implicitDefEqProofs -dsimp [w_law_2]
      refine ⟨by omega, by omega, com_of PyData.int (fun y => 1 ≤ y ∧ y ≤ 10 ^ 12) (fun y hy acc K2 hK2 => ?_) fun ms lm hm => ?_⟩
      · rw [nums_0] at hy
        obtain ⟨q, _, rfl⟩ := List.mem_map.mp hy
        (try simp -implicitDefEqProofs -dsimp)
        refine ⟨by simp [CPow], ask_draw (by omega) (by omega) fun t t0 t1 => ?_⟩
        (try simp -implicitDefEqProofs -dsimp)
        refine ask_of (sp := sp_Lone) ⟨a1, a2, a3, _, _, rfl, rfl, by simp, by simp, fun x hx => ?_⟩
        obtain ⟨y, rfl, y1, y2⟩ : ∃ y : Int, x = .int y ∧ 1 ≤ y ∧ y ≤ 10 ^ 12 := by
          simp only [List.mem_cons, List.not_mem_nil, or_false] at hx
          rcases hx with rfl | rfl | rfl
          · exact ⟨_, rfl, by decide, by decide⟩
          · exact ⟨_, rfl, by decide, by decide⟩
          · exact ⟨_, rfl, by omega, by omega⟩
        (try simp -implicitDefEqProofs -dsimp)
        exact hK2 _ ⟨y1, y2⟩
      · have lms : ms.length = n := by rw [lm, nums_len]; omega
        rw [show ms.map PyData.int = lI ms from rfl]
        (try simp -implicitDefEqProofs -dsimp)
        have e3 : DL.cutD (lT ks) none (some 3) = lT (ks.take 3) := by
          have := cutD_take (lT ks) 3
          rw [show DL.cutD (lT ks) none (some 3) = (lT ks).take 3 from this]
          unfold lT
          rw [List.map_take]
        obtain ⟨k1, k2⟩ := kd_put kd0 lms hm
        have q1 : lT (ks.take 3) ++ [tI ms] = lT (ks.take 3 ++ [ms]) := by unfold lT; rw [List.map_append]; rfl
        have q2 : tI ms :: lT (ks.take 3) = lT (ms :: ks.take 3) := rfl
        rw [e3]
        have l3 : (lT (ks.take 3)).length ≤ 3 := by unfold lT; rw [List.length_map, List.length_take]; omega
        have m4 : List.map tI [] = [] := rfl
        refine ⟨by omega, by omega, ?_⟩
        rw [q1, q2]
        generalize (ms :: ks.take 3) = KA at k2 ⊢
        generalize (ks.take 3 ++ [ms]) = KB at k1 ⊢
        refine ask_of (sp := sp_Lone) ⟨a1, a2, a3, _, _, rfl, rfl, by simp, by simp, fun x hx => ?_⟩
        simp only [List.mem_cons, List.not_mem_nil, or_false] at hx
        rcases hx with rfl | rfl
        · (try simp -implicitDefEqProofs -dsimp)
          exact t2 _ _ k2
        · (try simp -implicitDefEqProofs -dsimp)
          exact t2 _ _ k1
    · exact t2 ks _ kd0
end K68
set_option Elab.async false
set_option linter.all false
set_option maxRecDepth 100000
set_option maxHeartbeats 4000000
namespace K68
open PySem PySem.Spec PyProof.Rows L2 DL TW
variable [DL.Tb]
def topS (i : Nat) : Stmt := PySem.Challenge.pw_twobricks_k68_boxes_cut_down.main.body.getD i (.Pass ⟨0, 0, 0, 0⟩)
abbrev s_with_side : Stmt := topS 1
theorem sc_with_side : FnScope ["box", "axis", "side"] ["box", "axis", "side"] (defScope s_with_side) := ⟨rfl, rfl, rfl, by decide +kernel, rfl, by decide +kernel, by decide +kernel⟩
abbrev s_all_boxes : Stmt := topS 2
theorem sc_all_boxes : FnScope ["box", "found", "side", "own", "more"] ["box"] (defScope s_all_boxes) := ⟨rfl, rfl, rfl, by decide +kernel, rfl, by decide +kernel, by decide +kernel⟩
abbrev s_best_ways : Stmt := topS 3
theorem sc_best_ways : FnScope ["kinds", "box", "best", "own", "ways", "kind", "brick", "axis", "side", "at", "low", "high"] ["kinds", "box"] (defScope s_best_ways) := ⟨rfl, rfl, rfl, by decide +kernel, rfl, by decide +kernel, by decide +kernel⟩
abbrev s_chopped : Stmt := topS 6
theorem sc_chopped : FnScope ["kinds", "box"] ["kinds", "box"] (defScope s_chopped) := ⟨rfl, rfl, rfl, by decide +kernel, rfl, by decide +kernel, by decide +kernel⟩
abbrev s_Ldeck : Stmt := topS 8
theorem sc_Ldeck : FnScope ["_law_script", "_law_cells_here", "_law_cell"] ["_law_script"] (defScope s_Ldeck) := ⟨rfl, rfl, rfl, by decide +kernel, rfl, by decide +kernel, by decide +kernel⟩
abbrev s_Ldraw : Stmt := topS 9
theorem sc_Ldraw : FnScope ["_law_deck_here", "_law_many", "_law_rest", "_law_cell", "_law_mixed"] ["_law_deck_here", "_law_many"] (defScope s_Ldraw) := ⟨rfl, rfl, rfl, by decide +kernel, rfl, by decide +kernel, by decide +kernel⟩
abbrev s_Lone : Stmt := topS 10
theorem sc_Lone : FnScope ["_law_deck_here", "_law_items"] ["_law_deck_here", "_law_items"] (defScope s_Lone) := ⟨rfl, rfl, rfl, by decide +kernel, rfl, by decide +kernel, by decide +kernel⟩
abbrev s_Lsides : Stmt := topS 13
theorem sc_Lsides : FnScope ["_law_deck_here", "_law_axes", "_law_most", "_law_axis"] ["_law_deck_here", "_law_axes", "_law_most"] (defScope s_Lsides) := ⟨rfl, rfl, rfl, by decide +kernel, rfl, by decide +kernel, by decide +kernel⟩
abbrev s_Lkinds : Stmt := topS 19
theorem sc_Lkinds : FnScope ["_law_deck_here", "_law_axes", "_law_many", "_law_most", "_law_k"] ["_law_deck_here", "_law_axes", "_law_many", "_law_most"] (defScope s_Lkinds) := ⟨rfl, rfl, rfl, by decide +kernel, rfl, by decide +kernel, by decide +kernel⟩
abbrev s_Lwheel : Stmt := topS 20
theorem sc_Lwheel : FnScope ["_law_deck_here", "_law_small", "_law_great", "_law_kinds_here", "_law_found", "_law_box", "_law_side", "_law_deep", "_law_brick", "_law_kind", "_law_corner"] ["_law_deck_here"] (defScope s_Lwheel) := ⟨rfl, rfl, rfl, by decide +kernel, rfl, by decide +kernel, by decide +kernel⟩
abbrev s_Lvolume : Stmt := topS 11
theorem sc_Lvolume : FnScope ["_law_sides_here", "_law_found", "_law_side"] ["_law_sides_here"] (defScope s_Lvolume) := ⟨rfl, rfl, rfl, by decide +kernel, rfl, by decide +kernel, by decide +kernel⟩
abbrev s_Lsmall_box : Stmt := topS 23
theorem sc_Lsmall_box : FnScope ["_law_deck_here", "_law_kinds_here", "_law_cells_here", "_law_axes", "_law_turn", "_law_box", "_law_side"] ["_law_deck_here", "_law_kinds_here", "_law_cells_here"] (defScope s_Lsmall_box) := ⟨rfl, rfl, rfl, by decide +kernel, rfl, by decide +kernel, by decide +kernel⟩
abbrev s_fewest_bricks : Stmt := topS 4
theorem sc_fewest_bricks : FnScope ["kinds", "box", "best", "numbers", "rows", "own", "number", "way"] ["kinds", "box"] (defScope s_fewest_bricks) := ⟨rfl, rfl, rfl, by decide +kernel, rfl, by decide +kernel, by decide +kernel⟩
abbrev s_chop : Stmt := topS 5
theorem sc_chop : FnScope ["kinds", "box", "found"] ["kinds", "box"] (defScope s_chop) := ⟨rfl, rfl, rfl, by decide +kernel, rfl, by decide +kernel, by decide +kernel⟩
abbrev s_Lwhole : Stmt := topS 12
theorem sc_Lwhole : FnScope ["_law_value", "_law_least_here", "_law_most"] ["_law_value", "_law_least_here", "_law_most"] (defScope s_Lwhole) := ⟨rfl, rfl, rfl, by decide +kernel, rfl, by decide +kernel, by decide +kernel⟩
abbrev s_Lis_row : Stmt := topS 15
theorem sc_Lis_row : FnScope ["_law_kinds_here", "_law_value", "_law_index"] ["_law_kinds_here", "_law_value", "_law_index"] (defScope s_Lis_row) := ⟨rfl, rfl, rfl, by decide +kernel, rfl, by decide +kernel, by decide +kernel⟩
abbrev s_Lput : Stmt := topS 16
theorem sc_Lput : FnScope ["_law_one_here", "_law_other", "_law_axis", "_law_k"] ["_law_one_here", "_law_other", "_law_axis"] (defScope s_Lput) := ⟨rfl, rfl, rfl, by decide +kernel, rfl, by decide +kernel, by decide +kernel⟩
abbrev s_Lplan_error : Stmt := topS 17
theorem sc_Lplan_error : FnScope ["_law_kinds_here", "_law_value", "_law_boxes", "_law_index", "_law_row", "_law_box"] ["_law_kinds_here", "_law_value"] (defScope s_Lplan_error) := ⟨rfl, rfl, rfl, by decide +kernel, rfl, by decide +kernel, by decide +kernel⟩
abbrev s_Lplan_boxes : Stmt := topS 18
theorem sc_Lplan_boxes : FnScope ["_law_kinds_here", "_law_plan", "_law_found", "_law_row"] ["_law_kinds_here", "_law_plan"] (defScope s_Lplan_boxes) := ⟨rfl, rfl, rfl, by decide +kernel, rfl, by decide +kernel, by decide +kernel⟩
abbrev s_Lcells : Stmt := topS 14
theorem sc_Lcells : FnScope ["_law_sides_here", "_law_found", "_law_side", "_law_longer", "_law_cell", "_law_k"] ["_law_sides_here"] (defScope s_Lcells) := ⟨rfl, rfl, rfl, by decide +kernel, rfl, by decide +kernel, by decide +kernel⟩
abbrev s_Lsmaller : Stmt := topS 21
theorem sc_Lsmaller : FnScope ["_law_box", "_law_k", "_law_cell"] ["_law_box"] (defScope s_Lsmaller) := ⟨rfl, rfl, rfl, by decide +kernel, rfl, by decide +kernel, by decide +kernel⟩
abbrev s_Lleast : Stmt := topS 22
theorem sc_Lleast : FnScope ["_law_kinds_here", "_law_box", "_law_found", "_law_own", "_law_some", "_law_axis", "_law_at", "_law_low", "_law_high"] ["_law_kinds_here", "_law_box"] (defScope s_Lleast) := ⟨rfl, rfl, rfl, by decide +kernel, rfl, by decide +kernel, by decide +kernel⟩
abbrev s_Lright : Stmt := topS 24
theorem sc_Lright : FnScope ["_law_kinds_here", "_law_box", "_law_due", "_law_told"] ["_law_kinds_here", "_law_box"] (defScope s_Lright) := ⟨rfl, rfl, rfl, by decide +kernel, rfl, by decide +kernel, by decide +kernel⟩
abbrev s_law : Stmt := topS 25
theorem sc_law : FnScope ["_law_script", "_law_deck_here", "_law_turn", "_law_axes", "_law_kinds_here", "_law_far", "_law_axis", "_law_wheel_here", "_law_pinned", "_law_told"] ["_law_script"] (defScope s_law) := ⟨rfl, rfl, rfl, by decide +kernel, rfl, by decide +kernel, by decide +kernel⟩
set_option maxHeartbeats 0 in
theorem ok_with_side {P : Program} {w : World} {K : PySem.W.Frag} {mg : Str → Option Value} {base : Heap} {f : Addr} {fd : FuncData} (F : Fun K "with_side" "with_side" s_with_side f fd)  : FnG P w K mg base CX0 1 f fd ["box", "axis", "side"] (liftSp K sp_Lwith) := by
  have nd := sc_with_side.nd
  refine okD (wb := w_Lwith) F sc_with_side ln_Lwith (fun cdv A outer s H E hr => ?_) rd_Lwith
  exact (jss_one (js_ret (je_op d_addB (je_op d_addB (je_sl d_sl (jv 0) jo_none (jo_some (jv 1))) (je_tup (ja_cons (jv 2) ja_nil))) (je_sl d_sl (jv 0) (jo_some (je_op d_addB (jv 1) je_int)) jo_none))))
set_option maxHeartbeats 0 in
theorem ok_all_boxes {P : Program} {w : World} {K : PySem.W.Frag} {mg : Str → Option Value} {base : Heap} {f : Addr} {fd : FuncData} (F : Fun K "all_boxes" "all_boxes" s_all_boxes f fd) (z_range : mg "range" = none) : FnG P w K mg base CX0 1 f fd ["box"] (liftSp K sp_all_boxes) := by
  have nd := sc_all_boxes.nd
  refine okD (wb := w_all_boxes) F sc_all_boxes ln_all_boxes (fun cdv A outer s H E hr => ?_) rd_all_boxes
  exact (jss_cons (jset 1 nd (jm_e (je_ofL (jl_lst (ja_cons (je_tup ja_nil) ja_nil)))))
    (jss_cons (js_for PassesOwn.never rfl (ji_seq (jv 0)) (jgn 2 nd) (jss_one (js_setC2E (i := 1) (own := [("own", 3), ("more", 4)]) rfl nd rfl rfl (sw_true rfl rfl rfl (by decide +kernel)) (ji_seq (jv 1)) (blkOk_by (by kernel_rfl)) (by decide) (by decide) (by decide) (fun _ _ _ _ _ => (jgn 3 nd)) (fun _ _ _ _ _ => jts_nil) (fun _ _ _ _ _ => (ji_range2 rfl z_range (ja_cons je_int (ja_cons (je_op d_addB (jv 2) je_int) ja_nil)))) (fun _ _ _ _ _ => (jgn 4 nd)) (fun _ _ _ _ _ => jts_nil) (fun _ _ _ _ _ => (je_op d_addB (jv 3) (je_tup (ja_cons (jv 4) ja_nil)))))))
    (jss_one (js_ret (jv 1)))))
set_option maxHeartbeats 0 in
theorem ok_best_ways {P : Program} {w : World} {K : PySem.W.Frag} {mg : Str → Option Value} {base : Heap} {f : Addr} {fd : FuncData} (F : Fun K "best_ways" "best_ways" s_best_ways f fd) (z_min : mg "min" = none) (z_enumerate : mg "enumerate" = none) (z_range : mg "range" = none) {f_all_boxes : Addr} {fd_all_boxes : FuncData} (F_all_boxes : FnG P w K mg base CX0 1 f_all_boxes fd_all_boxes ["box"] (liftSp K sp_all_boxes)) (g_all_boxes : mg "all_boxes" = some (.ref f_all_boxes)) (k_all_boxes : PySem.W.keepIn K (.ref f_all_boxes) = true) (b_all_boxes : Binds K fd_all_boxes ["box"] []) {f_with_side : Addr} {fd_with_side : FuncData} (F_with_side : FnG P w K mg base CX0 1 f_with_side fd_with_side ["box", "axis", "side"] (liftSp K sp_Lwith)) (g_with_side : mg "with_side" = some (.ref f_with_side)) (k_with_side : PySem.W.keepIn K (.ref f_with_side) = true) (b_with_side : Binds K fd_with_side ["box", "axis", "side"] []) {c_best_ways P_best_ways : Addr} (tb_best_ways : LamX.TabB base mg c_best_ways P_best_ways) (hc_best_ways : fd.code = .ref c_best_ways) (tm_best_ways : (P_best_ways, (envOfC "best_ways" (defScope s_best_ways) 0 0 .none).qual ++ "<lambda>") ∈ Tb.T) (tu_best_ways : ∀ p ∈ Tb.T, p.1 = P_best_ways → p.2 = (envOfC "best_ways" (defScope s_best_ways) 0 0 .none).qual ++ "<lambda>") : FnG P w K mg base CX0 4 f fd ["kinds", "box"] (liftSp K sp_best_ways) := by
  have nd := sc_best_ways.nd
  replace F_all_boxes := F_all_boxes.mono (show 1 ≤ 3 by decide)
  replace F_with_side := F_with_side.mono (show 1 ≤ 3 by decide)
  refine okDc (c := c_best_ways) (wb := w_best_ways) F hc_best_ways sc_best_ways ln_best_ways (fun A outer s H E hr => ?_) rd_best_ways
  exact (jss_cons (jset 2 nd jm_dict)
    (jss_cons (js_for PassesOwn.never rfl (ji_seq (je_call (m := []) F_all_boxes hr rfl g_all_boxes k_all_boxes b_all_boxes (ja_cons (jv 1) ja_nil))) (jgn 3 nd) (jss_cons (js_setCL (i := 4) (own := [("kind", 5), ("brick", 6)]) rfl nd rfl rfl (sw_true rfl rfl rfl (by decide +kernel)) (ji_enum rfl z_enumerate (ja_cons (jv 0) ja_nil)) (blkOk_by (by kernel_rfl)) (by decide) (fun _ _ _ _ _ => (jg_tup rfl (jgs_cons (jgn 5 nd) (jgs_cons (jgn 6 nd) jgs_nil)) (gs_lenN (gs_lenN gs_len0)))) (fun _ _ _ _ _ => (jts_one (jt_cmp (d_eq hr.u64) (jv 6) (jv 3)))) (fun _ _ _ _ _ => (je_tup (ja_cons je_int (ja_cons (je_tup (ja_cons (jv 5) ja_nil)) ja_nil)))))
    (jss_cons (js_for PassesOwn.never rfl (ji_enum rfl z_enumerate (ja_cons (jv 3) ja_nil)) (jg_tup rfl (jgs_cons (jgn 7 nd) (jgs_cons (jgn 8 nd) jgs_nil)) (gs_lenN (gs_lenN gs_len0))) (jss_one (js_for PassesOwn.never rfl (ji_range2 rfl z_range (ja_cons je_int (ja_cons (je_op d_addB (je_op d_div (jv 8) je_int) je_int) ja_nil))) (jgn 9 nd) (jss_cons (jpar (i := 10) (j := 11) rfl nd rfl rfl (by decide) (jms_cons (jm_e (je_call (m := []) F_with_side hr rfl g_with_side k_with_side b_with_side (ja_cons (jv 3) (ja_cons (jv 7) (ja_cons (jv 9) ja_nil))))) (jms_cons (jm_e (je_call (m := []) F_with_side hr rfl g_with_side k_with_side b_with_side (ja_cons (jv 3) (ja_cons (jv 7) (ja_cons (je_op d_subB (jv 8) (jv 9)) ja_nil))))) jms_nil)))
    (jss_one (js_if (jt_w (jw_and (jt_din hr.u64 (jv 10) (jpv 2)) (jw_and1 (jt_din hr.u64 (jv 11) (jpv 2))))) (jss_one (js_append (jpv 4) (je_tup (ja_cons (je_op d_addB (je_ix d_ix (je_dget hr.u64 (jv 10) (jpv 2)) je_int (fun _ _ => rfl)) (je_ix d_ix (je_dget hr.u64 (jv 11) (jpv 2)) je_int (fun _ _ => rfl))) (ja_cons (je_tup (ja_cons (jv 7) (ja_cons (jv 10) (ja_cons (jv 11) ja_nil)))) ja_nil))) rfl rfl (pe_bm PySem.F.plainAttrs_list PySem.F.slot_list_append PySem.F.type_list_append mt_append (jpv 4) (pa_cons (je_tup (ja_cons (je_op d_addB (je_ix d_ix (je_dget hr.u64 (jv 10) (jpv 2)) je_int (fun _ _ => rfl)) (je_ix d_ix (je_dget hr.u64 (jv 11) (jpv 2)) je_int (fun _ _ => rfl))) (ja_cons (je_tup (ja_cons (jv 7) (ja_cons (jv 10) (ja_cons (jv 11) ja_nil)))) ja_nil))) pa_nil)))) jss_nil))))))
    (jss_one (js_if (jt_cmp (d_ne hr.u64) (jv 4) (je_ofL (jl_lst ja_nil))) (jss_one (js_dput hr.u64 (jpv 2) (jv 3) (je_minK (N := ["way"]) (lps := ["way"]) (j := 0) hr (by decide) rfl rfl z_min boot_min tb_best_ways rfl tm_best_ways tu_best_ways rfl (NdefX.nscope_by (by decide +kernel)) rfl (NdefX.ndef_free (sc := defScope s_best_ways) (fr := []) (by decide +kernel)) (fun _ _ _ _ _ _ us hl => match us, hl with | [_], _ => rfl) (fun _ _ _ _ _ _ hr => (je_ix d_ix (jv 0) je_int (fun _ _ => rfl))) (ja_cons (jv 4) ja_nil)))) jss_nil)))))
    (jss_one (js_ret (je_varF (jpv 2))))))
set_option maxHeartbeats 0 in
theorem ok_chopped {P : Program} {w : World} {K : PySem.W.Frag} {mg : Str → Option Value} {base : Heap} {f : Addr} {fd : FuncData} (F : Fun K "chopped" "chopped" s_chopped f fd) {f_best_ways : Addr} {fd_best_ways : FuncData} (F_best_ways : FnG P w K mg base CX0 4 f_best_ways fd_best_ways ["kinds", "box"] (liftSp K sp_best_ways)) (g_best_ways : mg "best_ways" = some (.ref f_best_ways)) (k_best_ways : PySem.W.keepIn K (.ref f_best_ways) = true) (b_best_ways : Binds K fd_best_ways ["kinds", "box"] []) : FnG P w K mg base CX0 5 f fd ["kinds", "box"] (liftSp K sp_chopped) := by
  have nd := sc_chopped.nd
  replace F_best_ways := F_best_ways.mono (show 4 ≤ 4 by decide)
  refine okD (wb := w_chopped) F sc_chopped ln_chopped (fun cdv A outer s H E hr => ?_) rd_chopped
  exact (jss_one (js_ret (je_cmp (d_inT hr.u64) (jv 1) (je_call (m := []) F_best_ways hr rfl g_best_ways k_best_ways b_best_ways (ja_cons (jv 0) (ja_cons (jv 1) ja_nil))))))
set_option maxHeartbeats 0 in
theorem ok_Ldeck {P : Program} {w : World} {K : PySem.W.Frag} {mg : Str → Option Value} {base : Heap} {f : Addr} {fd : FuncData} (F : Fun K "_law_deck" "_law_deck" s_Ldeck f fd) (z_abs : mg "abs" = none) (z_len : mg "len" = none) : FnG P w K mg base CX0 1 f fd ["_law_script"] (liftM K spDeck) := by
  have nd := sc_Ldeck.nd
  refine ok_deck F sc_Ldeck rfl rfl rfl (fun cdv A outer s H E hr => ?_) (fun cdv A outer s H E hr => ?_)
  · exact (js_setCL (i := 1) (own := [("_law_cell", 2)]) rfl nd rfl rfl (sw_true rfl rfl rfl (by decide +kernel)) (ji_seq (je_cut (jpv 0))) (blkOk_by (by kernel_rfl)) (by decide) (fun _ _ _ _ _ => (jgn 2 nd)) (fun _ _ _ _ _ => jts_nil) (fun _ _ _ _ _ => je_fn c_abs rfl z_abs boot_abs (ja_cons (jv 2) ja_nil)))
  · exact (jms_cons (jm_l (jl_comp (own := [("_law_cell", 2)]) rfl nd (ji_seq (jv 1)) (blkOk_by (by kernel_rfl)) (by decide) (fun _ _ _ _ _ => (jgn 2 nd)) (fun _ _ _ _ _ => jts_one (jt_cmp d_ge (jv 2) (je_op d_pow je_int je_int))) (fun _ _ _ _ _ => (jv 2))))
      (jms_cons (jm_l (jl_op d_addL (jv 1) (je_ofL (jl_lst (ja_cons (je_op d_add je_int (je_fn c_len rfl z_len boot_len (ja_cons (jv 1) ja_nil))) ja_nil))))) (jms_cons (jm_e je_int) jms_nil)))
set_option maxHeartbeats 0 in
theorem ok_Ldraw {P : Program} {w : World} {K : PySem.W.Frag} {mg : Str → Option Value} {base : Heap} {f : Addr} {fd : FuncData} (F : Fun K "_law_draw" "_law_draw" s_Ldraw f fd) (z_int : mg "int" = none) (z_len : mg "len" = none) : FnG P w K mg base CX0 1 f fd ["_law_deck_here", "_law_many"] (liftSp K spDraw) := by
  have nd := sc_Ldraw.nd
  refine ok_draw F sc_Ldraw rfl rfl fun cdv A outer s H E hr => ?_
  exact (jss_cons (js_if (jt_kne hr.u64 (jpv 0)) (jss_cons (jset 2 nd (jm_e (je_k00 (jpv 0)))) (jss_cons (js_put00 (jpv 0) (je_op d_div (jv 2) (jv 1)))
      (jss_cons (js_if (jt_cmp (d_eq hr.u64) (je_k00 (jpv 0)) je_int) (jss_one (js_pop0 (jpv 0) rfl (pe_bm PySem.F.plainAttrs_list PySem.F.slot_list_pop PySem.F.type_list_pop mt_popAt (pe_ix ix_list (jpv 0) pe_int (fun _ _ => rfl)) (pa_cons pe_int pa_nil)))) jss_nil)
      (jss_one (js_ret (je_op d_mod (je_ty c_int rfl z_int boot_int (ja_cons (jv 2) ja_nil)) (jv 1))))))) jss_nil)
    (jss_cons (js_put2 (jpv 0) (je_op d_add (je_k2 (jpv 0)) je_int))
    (jss_cons (jset 3 nd (jm_e (je_k1 (jpv 0) (je_op d_mod (je_ty c_int rfl z_int boot_int (ja_cons (je_k2 (jpv 0)) ja_nil)) (je_klen rfl z_len boot_len (jpv 0))) (fun _ _ => rfl))))
    (jss_cons (jset 4 nd (jm_e (je_op d_mod (je_ty c_int rfl z_int boot_int (ja_cons (je_op d_add (je_op d_mod (je_ty c_int rfl z_int boot_int (ja_cons (jv 3) ja_nil)) je_int) (je_op d_mul je_int (je_k2 (jpv 0)))) ja_nil)) je_int)))
    (jss_cons (jset 4 nd (jm_e (je_op d_mod (je_ty c_int rfl z_int boot_int (ja_cons (je_op d_add (je_op d_mul (jv 4) (jv 4)) (je_op d_mul je_int (je_k2 (jpv 0)))) ja_nil)) je_int)))
    (jss_one (js_ret (je_op d_mod (je_op d_div (je_op d_mod (je_ty c_int rfl z_int boot_int (ja_cons (je_op d_mul (jv 4) (jv 4)) ja_nil)) je_int) je_int) (jv 1)))))))))
set_option maxHeartbeats 0 in
theorem ok_Lone {P : Program} {w : World} {K : PySem.W.Frag} {mg : Str → Option Value} {base : Heap} {f : Addr} {fd : FuncData} (F : Fun K "_law_one" "_law_one" s_Lone f fd) (z_len : mg "len" = none) {f_Ldraw : Addr} {fd_Ldraw : FuncData} (F_Ldraw : FnG P w K mg base CX0 1 f_Ldraw fd_Ldraw ["_law_deck_here", "_law_many"] (liftSp K sp_Ldraw)) (g_Ldraw : mg "_law_draw" = some (.ref f_Ldraw)) (k_Ldraw : PySem.W.keepIn K (.ref f_Ldraw) = true) (b_Ldraw : Binds K fd_Ldraw ["_law_deck_here", "_law_many"] []) : FnG P w K mg base CX0 2 f fd ["_law_deck_here", "_law_items"] (liftSp K sp_Lone) := by
  have nd := sc_Lone.nd
  replace F_Ldraw := F_Ldraw.mono (show 1 ≤ 1 by decide)
  refine okD (wb := w_Lone) F sc_Lone ln_Lone (fun cdv A outer s H E hr => ?_) rd_Lone
  exact (jss_one (js_ret (je_ix d_ix (jv 1) (je_call (m := [true, false]) F_Ldraw hr rfl g_Ldraw k_Ldraw b_Ldraw (ja_cons (jv 0) (ja_cons (je_fn c_len rfl z_len boot_len (ja_cons (jv 1) ja_nil)) ja_nil))) (fun _ _ => rfl))))
set_option maxHeartbeats 0 in
theorem ok_Lsides {P : Program} {w : World} {K : PySem.W.Frag} {mg : Str → Option Value} {base : Heap} {f : Addr} {fd : FuncData} (F : Fun K "_law_sides" "_law_sides" s_Lsides f fd) (z_range : mg "range" = none) (z_tuple : mg "tuple" = none) {f_Ldraw : Addr} {fd_Ldraw : FuncData} (F_Ldraw : FnG P w K mg base CX0 1 f_Ldraw fd_Ldraw ["_law_deck_here", "_law_many"] (liftSp K sp_Ldraw)) (g_Ldraw : mg "_law_draw" = some (.ref f_Ldraw)) (k_Ldraw : PySem.W.keepIn K (.ref f_Ldraw) = true) (b_Ldraw : Binds K fd_Ldraw ["_law_deck_here", "_law_many"] []) : FnG P w K mg base CX0 2 f fd ["_law_deck_here", "_law_axes", "_law_most"] (liftSp K sp_Lsides) := by
  have nd := sc_Lsides.nd
  replace F_Ldraw := F_Ldraw.mono (show 1 ≤ 1 by decide)
  refine okD (wb := w_Lsides) F sc_Lsides ln_Lsides (fun cdv A outer s H E hr => ?_) rd_Lsides
  exact (jss_one (js_ret (je_ty c_tup rfl z_tuple boot_tuple (ja_cons (je_ofL (jl_comp (own := [("_law_axis", 3)]) rfl nd (ji_range1 rfl z_range (ja_cons (jv 1) ja_nil)) (blkOk_by (by kernel_rfl)) (by decide) (fun _ _ _ _ _ => (jgn 3 nd)) (fun _ _ _ _ _ => jts_nil) (fun _ _ _ _ _ => (je_op d_addB je_int (je_call (m := [true, false]) F_Ldraw hr rfl g_Ldraw k_Ldraw b_Ldraw (ja_cons (jv 0) (ja_cons (jv 2) ja_nil))))))) ja_nil))))
set_option maxHeartbeats 0 in
theorem ok_Lkinds {P : Program} {w : World} {K : PySem.W.Frag} {mg : Str → Option Value} {base : Heap} {f : Addr} {fd : FuncData} (F : Fun K "_law_kinds" "_law_kinds" s_Lkinds f fd) (z_range : mg "range" = none) (z_tuple : mg "tuple" = none) {f_Lsides : Addr} {fd_Lsides : FuncData} (F_Lsides : FnG P w K mg base CX0 2 f_Lsides fd_Lsides ["_law_deck_here", "_law_axes", "_law_most"] (liftSp K sp_Lsides)) (g_Lsides : mg "_law_sides" = some (.ref f_Lsides)) (k_Lsides : PySem.W.keepIn K (.ref f_Lsides) = true) (b_Lsides : Binds K fd_Lsides ["_law_deck_here", "_law_axes", "_law_most"] []) : FnG P w K mg base CX0 3 f fd ["_law_deck_here", "_law_axes", "_law_many", "_law_most"] (liftSp K sp_Lkinds) := by
  have nd := sc_Lkinds.nd
  replace F_Lsides := F_Lsides.mono (show 2 ≤ 2 by decide)
  refine okD (wb := w_Lkinds) F sc_Lkinds ln_Lkinds (fun cdv A outer s H E hr => ?_) rd_Lkinds
  exact (jss_one (js_ret (je_ty c_tup rfl z_tuple boot_tuple (ja_cons (je_ofL (jl_comp (own := [("_law_k", 4)]) rfl nd (ji_range1 rfl z_range (ja_cons (jv 2) ja_nil)) (blkOk_by (by kernel_rfl)) (by decide) (fun _ _ _ _ _ => (jgn 4 nd)) (fun _ _ _ _ _ => jts_nil) (fun _ _ _ _ _ => (je_call (m := [true, false, false]) F_Lsides hr rfl g_Lsides k_Lsides b_Lsides (ja_cons (jv 0) (ja_cons (jv 1) (ja_cons (jv 3) ja_nil))))))) ja_nil))))
set_option maxHeartbeats 0 in
theorem ok_Lwheel {P : Program} {w : World} {K : PySem.W.Frag} {mg : Str → Option Value} {base : Heap} {f : Addr} {fd : FuncData} (F : Fun K "_law_wheel" "_law_wheel" s_Lwheel f fd) (z_sorted : mg "sorted" = none) (z_tuple : mg "tuple" = none) {f_Ldraw : Addr} {fd_Ldraw : FuncData} (F_Ldraw : FnG P w K mg base CX0 1 f_Ldraw fd_Ldraw ["_law_deck_here", "_law_many"] (liftSp K sp_Ldraw)) (g_Ldraw : mg "_law_draw" = some (.ref f_Ldraw)) (k_Ldraw : PySem.W.keepIn K (.ref f_Ldraw) = true) (b_Ldraw : Binds K fd_Ldraw ["_law_deck_here", "_law_many"] []) : FnG P w K mg base CX0 2 f fd ["_law_deck_here"] (liftSp K sp_Lwheel) := by
  have nd := sc_Lwheel.nd
  replace F_Ldraw := F_Ldraw.mono (show 1 ≤ 1 by decide)
  refine okD (wb := w_Lwheel) F sc_Lwheel ln_Lwheel (fun cdv A outer s H E hr => ?_) rd_Lwheel
  exact (jss_cons (jset 1 nd (jm_e (je_op d_addB je_int (je_call (m := [true, false]) F_Ldraw hr rfl g_Ldraw k_Ldraw b_Ldraw (ja_cons (jv 0) (ja_cons je_int ja_nil))))))
    (jss_cons (jset 2 nd (jm_e (je_op d_addB (je_op d_addB (jv 1) je_int) (je_call (m := [true, false]) F_Ldraw hr rfl g_Ldraw k_Ldraw b_Ldraw (ja_cons (jv 0) (ja_cons je_int ja_nil))))))
    (jss_cons (jset 3 nd (jm_e (je_tup (ja_cons (je_tup (ja_cons (jv 1) (ja_cons (jv 2) ja_nil))) (ja_cons (je_tup (ja_cons (jv 2) (ja_cons (jv 1) ja_nil))) (ja_cons (je_tup (ja_cons (je_op d_subB (jv 2) (jv 1)) (ja_cons (je_op d_subB (jv 2) (jv 1)) ja_nil))) ja_nil))))))
    (jss_cons (jset 4 nd (jm_l (jl_lst (ja_cons (je_tup (ja_cons je_int (ja_cons (je_tup (ja_cons je_int (ja_cons je_int ja_nil))) ja_nil))) (ja_cons (je_tup (ja_cons je_int (ja_cons (je_tup (ja_cons je_int (ja_cons (jv 2) ja_nil))) ja_nil))) (ja_cons (je_tup (ja_cons je_int (ja_cons (je_tup (ja_cons (jv 2) (ja_cons (jv 1) ja_nil))) ja_nil))) (ja_cons (je_tup (ja_cons je_int (ja_cons (je_tup (ja_cons (jv 1) (ja_cons je_int ja_nil))) ja_nil))) (ja_cons (je_tup (ja_cons je_int (ja_cons (je_tup (ja_cons (jv 1) (ja_cons (jv 1) ja_nil))) ja_nil))) ja_nil))))))))
    (jss_cons (jpar (i := 5) (j := 6) rfl nd rfl rfl (by decide) (jms_cons (jm_e (je_tup (ja_cons (je_op d_addB (jv 1) (jv 2)) (ja_cons (je_op d_addB (jv 1) (jv 2)) ja_nil)))) (jms_cons (jm_e (je_op d_addB (jv 1) (jv 2))) jms_nil)))
    (jss_cons (js_if (jt_cmp (d_eq hr.u64) (je_call (m := [true, false]) F_Ldraw hr rfl g_Ldraw k_Ldraw b_Ldraw (ja_cons (jv 0) (ja_cons je_int ja_nil))) je_int) (jss_cons (jset 3 nd (jm_e (je_op d_addB (jv 3) (je_tup (ja_cons (je_tup (ja_cons (je_op d_addB je_int (je_call (m := [true, false]) F_Ldraw hr rfl g_Ldraw k_Ldraw b_Ldraw (ja_cons (jv 0) (ja_cons je_int ja_nil)))) (ja_cons (jv 6) ja_nil))) ja_nil)))))
    (jss_cons (js_append (jpv 4) (je_tup (ja_cons je_int (ja_cons (je_tup (ja_cons (jv 6) (ja_cons je_int ja_nil))) ja_nil))) rfl rfl (pe_bm PySem.F.plainAttrs_list PySem.F.slot_list_append PySem.F.type_list_append mt_append (jpv 4) (pa_cons (je_tup (ja_cons je_int (ja_cons (je_tup (ja_cons (jv 6) (ja_cons je_int ja_nil))) ja_nil))) pa_nil)))
    (jss_one (jset 5 nd (jm_e (je_tup (ja_cons (je_op d_addB (jv 6) (je_ix d_ix (je_ix d_ix (jv 3) je_int (fun _ _ => rfl)) je_int (fun _ _ => rfl))) (ja_cons (jv 6) ja_nil)))))))) jss_nil)
    (jss_cons (js_if (jt_cmp (d_eq hr.u64) (je_call (m := [true, false]) F_Ldraw hr rfl g_Ldraw k_Ldraw b_Ldraw (ja_cons (jv 0) (ja_cons je_int ja_nil))) je_int) (jss_cons (jset 7 nd (jm_e (je_op d_addB je_int (je_call (m := [true, false]) F_Ldraw hr rfl g_Ldraw k_Ldraw b_Ldraw (ja_cons (jv 0) (ja_cons je_int ja_nil))))))
    (jss_cons (jpar (i := 3) (j := 5) rfl nd rfl rfl (by decide) (jms_cons (jm_e (je_ty c_tup rfl z_tuple boot_tuple (ja_cons (je_ofL (jl_comp (own := [("_law_brick", 8)]) rfl nd (ji_seq (jv 3)) (blkOk_by (by kernel_rfl)) (by decide) (fun _ _ _ _ _ => (jgn 8 nd)) (fun _ _ _ _ _ => jts_nil) (fun _ _ _ _ _ => (je_op d_addB (jv 8) (je_tup (ja_cons (jv 7) ja_nil)))))) ja_nil))) (jms_cons (jm_e (je_op d_addB (jv 5) (je_tup (ja_cons (jv 7) ja_nil)))) jms_nil)))
    (jss_one (js_setCL (i := 4) (own := [("_law_kind", 9), ("_law_corner", 10)]) rfl nd rfl rfl (sw_true rfl rfl rfl (by decide +kernel)) (ji_seq (jv 4)) (blkOk_by (by kernel_rfl)) (by decide) (fun _ _ _ _ _ => (jg_tup rfl (jgs_cons (jgn 9 nd) (jgs_cons (jgn 10 nd) jgs_nil)) (gs_lenN (gs_lenN gs_len0)))) (fun _ _ _ _ _ => jts_nil) (fun _ _ _ _ _ => (je_tup (ja_cons (jv 9) (ja_cons (je_op d_addB (jv 10) (je_tup (ja_cons je_int ja_nil))) ja_nil)))))))) jss_nil)
    (jss_one (js_ret (je_tup (ja_cons (jv 3) (ja_cons (jv 5) (ja_cons (je_ty c_tup rfl z_tuple boot_tuple (ja_cons (je_fn (c_sorted hr.u64) rfl z_sorted boot_sorted (ja_cons (jv 4) ja_nil)) ja_nil)) ja_nil)))))))))))))
set_option maxHeartbeats 0 in
theorem ok_Lvolume {P : Program} {w : World} {K : PySem.W.Frag} {mg : Str → Option Value} {base : Heap} {f : Addr} {fd : FuncData} (F : Fun K "_law_volume" "_law_volume" s_Lvolume f fd)  : FnG P w K mg base CX0 1 f fd ["_law_sides_here"] (liftSp K sp_Lvolume) := by
  have nd := sc_Lvolume.nd
  refine okD (wb := w_Lvolume) F sc_Lvolume ln_Lvolume (fun cdv A outer s H E hr => ?_) rd_Lvolume
  exact (jss_cons (jset 1 nd (jm_e je_int))
    (jss_cons (js_for PassesOwn.never rfl (ji_seq (jv 0)) (jgn 2 nd) (jss_one (jset 1 nd (jm_e (je_op d_mulT (jv 1) (jv 2))))))
    (jss_one (js_ret (jv 1)))))
set_option maxHeartbeats 0 in
theorem ok_Lsmall_box {P : Program} {w : World} {K : PySem.W.Frag} {mg : Str → Option Value} {base : Heap} {f : Addr} {fd : FuncData} (F : Fun K "_law_small_box" "_law_small_box" s_Lsmall_box f fd) (z_range : mg "range" = none) (z_list : mg "list" = none) (z_tuple : mg "tuple" = none) (z_len : mg "len" = none) {f_Lvolume : Addr} {fd_Lvolume : FuncData} (F_Lvolume : FnG P w K mg base CX0 1 f_Lvolume fd_Lvolume ["_law_sides_here"] (liftSp K sp_Lvolume)) (g_Lvolume : mg "_law_volume" = some (.ref f_Lvolume)) (k_Lvolume : PySem.W.keepIn K (.ref f_Lvolume) = true) (b_Lvolume : Binds K fd_Lvolume ["_law_sides_here"] []) {f_Ldraw : Addr} {fd_Ldraw : FuncData} (F_Ldraw : FnG P w K mg base CX0 1 f_Ldraw fd_Ldraw ["_law_deck_here", "_law_many"] (liftSp K sp_Ldraw)) (g_Ldraw : mg "_law_draw" = some (.ref f_Ldraw)) (k_Ldraw : PySem.W.keepIn K (.ref f_Ldraw) = true) (b_Ldraw : Binds K fd_Ldraw ["_law_deck_here", "_law_many"] []) {f_Lone : Addr} {fd_Lone : FuncData} (F_Lone : FnG P w K mg base CX0 2 f_Lone fd_Lone ["_law_deck_here", "_law_items"] (liftSp K sp_Lone)) (g_Lone : mg "_law_one" = some (.ref f_Lone)) (k_Lone : PySem.W.keepIn K (.ref f_Lone) = true) (b_Lone : Binds K fd_Lone ["_law_deck_here", "_law_items"] []) {f_Lsides : Addr} {fd_Lsides : FuncData} (F_Lsides : FnG P w K mg base CX0 2 f_Lsides fd_Lsides ["_law_deck_here", "_law_axes", "_law_most"] (liftSp K sp_Lsides)) (g_Lsides : mg "_law_sides" = some (.ref f_Lsides)) (k_Lsides : PySem.W.keepIn K (.ref f_Lsides) = true) (b_Lsides : Binds K fd_Lsides ["_law_deck_here", "_law_axes", "_law_most"] []) : FnG P w K mg base CX0 3 f fd ["_law_deck_here", "_law_kinds_here", "_law_cells_here"] (liftSp K sp_Lsmall_box) := by
  have nd := sc_Lsmall_box.nd
  replace F_Lvolume := F_Lvolume.mono (show 1 ≤ 2 by decide)
  replace F_Ldraw := F_Ldraw.mono (show 1 ≤ 2 by decide)
  replace F_Lone := F_Lone.mono (show 2 ≤ 2 by decide)
  replace F_Lsides := F_Lsides.mono (show 2 ≤ 2 by decide)
  refine okD (wb := w_Lsmall_box) F sc_Lsmall_box ln_Lsmall_box (fun cdv A outer s H E hr => ?_) rd_Lsmall_box
  exact (jss_cons (jset 3 nd (jm_e (je_fn c_len rfl z_len boot_len (ja_cons (je_ix d_ix (jv 1) je_int (fun _ _ => rfl)) ja_nil))))
    (jss_cons (js_for PassesOwn.never rfl (ji_range1 rfl z_range (ja_cons je_int ja_nil)) (jgn 4 nd) (jss_cons (jset 5 nd (jm_e (je_call (m := [true, false, false]) F_Lsides hr rfl g_Lsides k_Lsides b_Lsides (ja_cons (jv 0) (ja_cons (jv 3) (ja_cons (je_ix d_ix (je_ofL (jl_lst (ja_cons je_int (ja_cons je_int (ja_cons je_int (ja_cons je_int ja_nil)))))) (je_op d_subB (jv 3) je_int) (fun _ _ => rfl)) ja_nil))))))
    (jss_cons (js_if (jt_cmp (d_eq hr.u64) (je_call (m := [true, false]) F_Ldraw hr rfl g_Ldraw k_Ldraw b_Ldraw (ja_cons (jv 0) (ja_cons je_int ja_nil))) je_int) (jss_one (jset 5 nd (jm_e (je_ty c_tup rfl z_tuple boot_tuple (ja_cons (je_ofL (jl_comp (own := [("_law_side", 6)]) rfl nd (ji_seq (je_call (m := [true, false]) F_Lone hr rfl g_Lone k_Lone b_Lone (ja_cons (jv 0) (ja_cons (je_ofL (jl_ty c_lst rfl z_list boot_list (ja_cons (jv 1) ja_nil))) ja_nil)))) (blkOk_by (by kernel_rfl)) (by decide) (fun _ _ _ _ _ => (jgn 6 nd)) (fun _ _ _ _ _ => jts_nil) (fun _ _ _ _ _ => (je_op d_mulT (jv 6) (je_op d_addB je_int (je_call (m := [true, false]) F_Ldraw hr rfl g_Ldraw k_Ldraw b_Ldraw (ja_cons (jv 0) (ja_cons je_int ja_nil)))))))) ja_nil))))) jss_nil)
    (jss_one (js_if (jt_cmp d_le (je_call (m := []) F_Lvolume hr rfl g_Lvolume k_Lvolume b_Lvolume (ja_cons (jv 5) ja_nil)) (jv 2)) (jss_one (js_ret (jv 5))) jss_nil)))))
    (jss_one (js_ret (je_op d_mulT (je_tup (ja_cons je_int ja_nil)) (jv 3))))))
set_option maxHeartbeats 0 in
theorem ok_fewest_bricks {P : Program} {w : World} {K : PySem.W.Frag} {mg : Str → Option Value} {base : Heap} {f : Addr} {fd : FuncData} (F : Fun K "fewest_bricks" "fewest_bricks" s_fewest_bricks f fd) (z_tuple : mg "tuple" = none) (z_len : mg "len" = none) {f_best_ways : Addr} {fd_best_ways : FuncData} (F_best_ways : FnG P w K mg base CX0 4 f_best_ways fd_best_ways ["kinds", "box"] (liftSp K sp_best_ways)) (g_best_ways : mg "best_ways" = some (.ref f_best_ways)) (k_best_ways : PySem.W.keepIn K (.ref f_best_ways) = true) (b_best_ways : Binds K fd_best_ways ["kinds", "box"] []) : FnG P w K mg base CX0 5 f fd ["kinds", "box"] (liftSp K sp_fewest_bricks) := by
  have nd := sc_fewest_bricks.nd
  replace F_best_ways := F_best_ways.mono (show 4 ≤ 4 by decide)
  refine okD (wb := w_fewest_bricks) F sc_fewest_bricks ln_fewest_bricks (fun cdv A outer s H E hr => ?_) rd_fewest_bricks
  exact (jss_cons (jpar3 (i := 2) (j := 3) (l := 4) rfl nd rfl rfl rfl (by decide) (by decide) (by decide) (jms_cons (jm_e (je_call (m := []) F_best_ways hr rfl g_best_ways k_best_ways b_best_ways (ja_cons (jv 0) (ja_cons (jv 1) ja_nil)))) (jms_cons jm_dict (jms_cons (jm_l (jl_lst ja_nil)) jms_nil))))
    (jss_cons (js_if (jt_tnotin hr.u64 (jv 1) (jpv 2)) (jss_one (js_ret je_non)) jss_nil)
    (jss_cons (js_for PassesOwn.never rfl (ji_itemsT (jv 2)) (jg_tup rfl (jgs_cons (jgn 5 nd) (jgs_cons (jg_tup rfl (jgs_cons (jgn 6 nd) (jgs_cons (jgn 7 nd) jgs_nil)) (gs_lenN (gs_lenN gs_len0))) jgs_nil)) (gs_lenN (gs_lenT (gs_exN (gs_exN gs_ex0)) gs_len0))) (jss_cons (js_dput hr.u64 (jpv 3) (jv 5) (je_fn c_len rfl z_len boot_len (ja_cons (jv 4) ja_nil)))
    (jss_one (js_append (jpv 4) (je_ifE (jt_cmp (d_eq hr.u64) (je_fn c_len rfl z_len boot_len (ja_cons (jv 7) ja_nil)) je_int) (jv 7) (je_tup (ja_cons (je_ix d_ix (jv 7) je_int (fun _ _ => rfl)) (ja_cons (je_dget hr.u64 (je_ix d_ix (jv 7) je_int (fun _ _ => rfl)) (jpv 3)) (ja_cons (je_dget hr.u64 (je_ix d_ix (jv 7) je_int (fun _ _ => rfl)) (jpv 3)) ja_nil))))) rfl rfl (pe_bm PySem.F.plainAttrs_list PySem.F.slot_list_append PySem.F.type_list_append mt_append (jpv 4) (pa_cons (je_ifE (jt_cmp (d_eq hr.u64) (je_fn c_len rfl z_len boot_len (ja_cons (jv 7) ja_nil)) je_int) (jv 7) (je_tup (ja_cons (je_ix d_ix (jv 7) je_int (fun _ _ => rfl)) (ja_cons (je_dget hr.u64 (je_ix d_ix (jv 7) je_int (fun _ _ => rfl)) (jpv 3)) (ja_cons (je_dget hr.u64 (je_ix d_ix (jv 7) je_int (fun _ _ => rfl)) (jpv 3)) ja_nil))))) pa_nil))))))
    (jss_one (js_ret (je_tup (ja_cons (je_ix d_ix (je_tget hr.u64 (jv 1) (jpv 2)) je_int (fun _ _ => rfl)) (ja_cons (je_ty c_tup rfl z_tuple boot_tuple (ja_cons (jv 4) ja_nil)) ja_nil))))))))
set_option maxHeartbeats 0 in
theorem ok_chop {P : Program} {w : World} {K : PySem.W.Frag} {mg : Str → Option Value} {base : Heap} {f : Addr} {fd : FuncData} (F : Fun K "chop" "chop" s_chop f fd) {f_fewest_bricks : Addr} {fd_fewest_bricks : FuncData} (F_fewest_bricks : FnG P w K mg base CX0 5 f_fewest_bricks fd_fewest_bricks ["kinds", "box"] (liftSp K sp_fewest_bricks)) (g_fewest_bricks : mg "fewest_bricks" = some (.ref f_fewest_bricks)) (k_fewest_bricks : PySem.W.keepIn K (.ref f_fewest_bricks) = true) (b_fewest_bricks : Binds K fd_fewest_bricks ["kinds", "box"] []) : FnG P w K mg base CX0 6 f fd ["kinds", "box"] (liftSp K sp_chop) := by
  have nd := sc_chop.nd
  replace F_fewest_bricks := F_fewest_bricks.mono (show 5 ≤ 5 by decide)
  refine okD (wb := w_chop) F sc_chop ln_chop (fun cdv A outer s H E hr => ?_) rd_chop
  exact (jss_cons (jset 2 nd (jm_e (je_call (m := []) F_fewest_bricks hr rfl g_fewest_bricks k_fewest_bricks b_fewest_bricks (ja_cons (jv 0) (ja_cons (jv 1) ja_nil)))))
    (jss_one (js_ret (je_ifE (jt_cmp d_is (jv 2) je_non) je_non (je_ix d_ix (jv 2) je_int (fun _ _ => rfl))))))
set_option maxHeartbeats 0 in
theorem ok_Lwhole {P : Program} {w : World} {K : PySem.W.Frag} {mg : Str → Option Value} {base : Heap} {f : Addr} {fd : FuncData} (F : Fun K "_law_whole" "_law_whole" s_Lwhole f fd) (z_isinstance : mg "isinstance" = none) (z_bool : mg "bool" = none) (z_int : mg "int" = none) : FnG P w K mg base CX0 1 f fd ["_law_value", "_law_least_here", "_law_most"] (liftSp K sp_is_integer) := by
  have nd := sc_Lwhole.nd
  refine okD (wb := w_is_integer) F sc_Lwhole ln_is_integer (fun cdv A outer s H E hr => ?_) rd_is_integer
  exact (jss_one (js_ret (je_and (je_isi (T := "int") (by simp) rfl z_isinstance boot_isinstance rfl z_int boot_int (jv 0)) (je_and (je_not (je_isi (T := "bool") (by simp) rfl z_isinstance boot_isinstance rfl z_bool boot_bool (jv 0))) (je_one (je_chain d_le d_le (jv 1) (jv 0) (jv 2)))))))
set_option maxHeartbeats 0 in
theorem ok_Lis_row {P : Program} {w : World} {K : PySem.W.Frag} {mg : Str → Option Value} {base : Heap} {f : Addr} {fd : FuncData} (F : Fun K "_law_is_row" "_law_is_row" s_Lis_row f fd) (z_len : mg "len" = none) (z_isinstance : mg "isinstance" = none) (z_tuple : mg "tuple" = none) {f_Lwhole : Addr} {fd_Lwhole : FuncData} (F_Lwhole : FnG P w K mg base CX0 1 f_Lwhole fd_Lwhole ["_law_value", "_law_least_here", "_law_most"] (liftSp K sp_is_integer)) (g_Lwhole : mg "_law_whole" = some (.ref f_Lwhole)) (k_Lwhole : PySem.W.keepIn K (.ref f_Lwhole) = true) (b_Lwhole : Binds K fd_Lwhole ["_law_value", "_law_least_here", "_law_most"] []) : FnG P w K mg base CX0 2 f fd ["_law_kinds_here", "_law_value", "_law_index"] (liftSp K sp_Lis_row) := by
  have nd := sc_Lis_row.nd
  replace F_Lwhole := F_Lwhole.mono (show 1 ≤ 1 by decide)
  refine okD (wb := w_Lis_row) F sc_Lis_row ln_Lis_row (fun cdv A outer s H E hr => ?_) rd_Lis_row
  exact (jss_cons (js_if (jt_w (jw_or (jt_not (jt_val (je_isi (T := "tuple") (by simp) rfl z_isinstance boot_isinstance rfl z_tuple boot_tuple (jv 1)))) (jw_or1 (jt_cmp (d_notIn hr.u65) (je_fn c_len rfl z_len boot_len (ja_cons (jv 1) ja_nil)) (je_ofL (jl_lst (ja_cons je_int (ja_cons je_int ja_nil)))))))) (jss_one (js_ret je_bl)) jss_nil)
    (jss_cons (js_if (jt_cmp (d_eq hr.u64) (je_fn c_len rfl z_len boot_len (ja_cons (jv 1) ja_nil)) je_int) (jss_one (js_ret (je_call (m := []) F_Lwhole hr rfl g_Lwhole k_Lwhole b_Lwhole (ja_cons (je_ix d_ix (jv 1) je_int (fun _ _ => rfl)) (ja_cons je_int (ja_cons (je_op d_subB (je_fn c_len rfl z_len boot_len (ja_cons (jv 0) ja_nil)) je_int) ja_nil)))))) jss_nil)
    (jss_cons (js_if (jt_not (jt_val (je_call (m := []) F_Lwhole hr rfl g_Lwhole k_Lwhole b_Lwhole (ja_cons (je_ix d_ix (jv 1) je_int (fun _ _ => rfl)) (ja_cons je_int (ja_cons (je_op d_subB (je_fn c_len rfl z_len boot_len (ja_cons (je_ix d_ix (jv 0) je_int (fun _ _ => rfl)) ja_nil)) je_int) ja_nil)))))) (jss_one (js_ret je_bl)) jss_nil)
    (jss_one (js_ret (je_and (je_call (m := []) F_Lwhole hr rfl g_Lwhole k_Lwhole b_Lwhole (ja_cons (je_ix d_ix (jv 1) je_int (fun _ _ => rfl)) (ja_cons je_int (ja_cons (je_op d_subB (jv 2) je_int) ja_nil)))) (je_one (je_call (m := []) F_Lwhole hr rfl g_Lwhole k_Lwhole b_Lwhole (ja_cons (je_ix d_ix (jv 1) je_int (fun _ _ => rfl)) (ja_cons je_int (ja_cons (je_op d_subB (jv 2) je_int) ja_nil)))))))))))
set_option maxHeartbeats 0 in
theorem ok_Lput {P : Program} {w : World} {K : PySem.W.Frag} {mg : Str → Option Value} {base : Heap} {f : Addr} {fd : FuncData} (F : Fun K "_law_put" "_law_put" s_Lput f fd) (z_len : mg "len" = none) (z_range : mg "range" = none) : FnG P w K mg base CX0 1 f fd ["_law_one_here", "_law_other", "_law_axis"] (liftSp K sp_Lput) := by
  have nd := sc_Lput.nd
  refine okD (wb := w_Lput) F sc_Lput ln_Lput (fun cdv A outer s H E hr => ?_) rd_Lput
  exact (jss_cons (js_for PassesOwn.never rfl (ji_range1 rfl z_range (ja_cons (je_fn c_len rfl z_len boot_len (ja_cons (jv 0) ja_nil)) ja_nil)) (jgn 3 nd) (jss_one (js_if (jt_w (jw_and (jt_cmp (d_ne hr.u64) (jv 3) (jv 2)) (jw_and1 (jt_cmp (d_ne hr.u64) (je_ix d_ix (jv 0) (jv 3) (fun _ _ => rfl)) (je_ix d_ix (jv 1) (jv 3) (fun _ _ => rfl)))))) (jss_one (js_ret je_non)) jss_nil)))
    (jss_one (js_ret (je_op d_addB (je_op d_addB (je_sl d_sl (jv 0) jo_none (jo_some (jv 2))) (je_tup (ja_cons (je_op d_addB (je_ix d_ix (jv 0) (jv 2) (fun _ _ => rfl)) (je_ix d_ix (jv 1) (jv 2) (fun _ _ => rfl))) ja_nil))) (je_sl d_sl (jv 0) (jo_some (je_op d_addB (jv 2) je_int)) jo_none)))))
set_option maxHeartbeats 0 in
theorem ok_Lplan_error {P : Program} {w : World} {K : PySem.W.Frag} {mg : Str → Option Value} {base : Heap} {f : Addr} {fd : FuncData} (F : Fun K "_law_plan_error" "_law_plan_error" s_Lplan_error f fd) (z_len : mg "len" = none) (z_range : mg "range" = none) (z_max : mg "max" = none) (z_isinstance : mg "isinstance" = none) (z_tuple : mg "tuple" = none) {f_Lput : Addr} {fd_Lput : FuncData} (F_Lput : FnG P w K mg base CX0 1 f_Lput fd_Lput ["_law_one_here", "_law_other", "_law_axis"] (liftSp K sp_Lput)) (g_Lput : mg "_law_put" = some (.ref f_Lput)) (k_Lput : PySem.W.keepIn K (.ref f_Lput) = true) (b_Lput : Binds K fd_Lput ["_law_one_here", "_law_other", "_law_axis"] []) {f_Lis_row : Addr} {fd_Lis_row : FuncData} (F_Lis_row : FnG P w K mg base CX0 2 f_Lis_row fd_Lis_row ["_law_kinds_here", "_law_value", "_law_index"] (liftSp K sp_Lis_row)) (g_Lis_row : mg "_law_is_row" = some (.ref f_Lis_row)) (k_Lis_row : PySem.W.keepIn K (.ref f_Lis_row) = true) (b_Lis_row : Binds K fd_Lis_row ["_law_kinds_here", "_law_value", "_law_index"] []) : FnG P w K mg base CX0 3 f fd ["_law_kinds_here", "_law_value"] (liftSp K sp_Lplan_error) := by
  have nd := sc_Lplan_error.nd
  replace F_Lput := F_Lput.mono (show 1 ≤ 2 by decide)
  replace F_Lis_row := F_Lis_row.mono (show 2 ≤ 2 by decide)
  refine okD (wb := w_Lplan_error) F sc_Lplan_error ln_Lplan_error (fun cdv A outer s H E hr => ?_) rd_Lplan_error
  exact (jss_cons (js_if (jt_w (jw_or (jt_not (jt_val (je_isi (T := "tuple") (by simp) rfl z_isinstance boot_isinstance rfl z_tuple boot_tuple (jv 1)))) (jw_or1 (jt_not (jt_chain d_le d_le je_int (je_fn c_len rfl z_len boot_len (ja_cons (jv 1) ja_nil)) je_int))))) (jss_one (js_ret (je_tup (ja_cons je_non (ja_cons je_str ja_nil))))) jss_nil)
    (jss_cons (jset 2 nd (jm_l (jl_lst ja_nil)))
    (jss_cons (js_for PassesOwn.never rfl (ji_range1 rfl z_range (ja_cons (je_fn c_len rfl z_len boot_len (ja_cons (jv 1) ja_nil)) ja_nil)) (jgn 3 nd) (jss_cons (jset 4 nd (jm_e (je_ix d_ix (jv 1) (jv 3) (fun _ _ => rfl))))
    (jss_cons (js_if (jt_not (jt_val (je_call (m := []) F_Lis_row hr rfl g_Lis_row k_Lis_row b_Lis_row (ja_cons (jv 0) (ja_cons (jv 4) (ja_cons (jv 3) ja_nil)))))) (jss_one (js_ret (je_tup (ja_cons (jv 3) (ja_cons je_str ja_nil))))) jss_nil)
    (jss_cons (jset 5 nd (jm_e (je_ifE (jt_cmp (d_eq hr.u64) (je_fn c_len rfl z_len boot_len (ja_cons (jv 4) ja_nil)) je_int) (je_ix d_ix (jv 0) (je_ix d_ix (jv 4) je_int (fun _ _ => rfl)) (fun _ _ => rfl)) (je_call (m := []) F_Lput hr rfl g_Lput k_Lput b_Lput (ja_cons (je_ix d_ix (jv 2) (je_ix d_ix (jv 4) je_int (fun _ _ => rfl)) (fun _ _ => rfl)) (ja_cons (je_ix d_ix (jv 2) (je_ix d_ix (jv 4) je_int (fun _ _ => rfl)) (fun _ _ => rfl)) (ja_cons (je_ix d_ix (jv 4) je_int (fun _ _ => rfl)) ja_nil)))))))
    (jss_cons (js_if (jt_cmp d_is (jv 5) je_non) (jss_one (js_ret (je_tup (ja_cons (jv 3) (ja_cons je_str ja_nil))))) jss_nil)
    (jss_cons (js_if (jt_cmp d_gt (je_fn (c_maxS rfl hr.u64) rfl z_max boot_max (ja_cons (jv 5) ja_nil)) (je_op d_pow je_int je_int)) (jss_one (js_ret (je_tup (ja_cons (jv 3) (ja_cons je_str ja_nil))))) jss_nil)
    (jss_one (js_append (jpv 2) (jv 5) rfl rfl (pe_bm PySem.F.plainAttrs_list PySem.F.slot_list_append PySem.F.type_list_append mt_append (jpv 2) (pa_cons (jv 5) pa_nil))))))))))
    (jss_one (js_ret je_non)))))
set_option maxHeartbeats 0 in
theorem ok_Lplan_boxes {P : Program} {w : World} {K : PySem.W.Frag} {mg : Str → Option Value} {base : Heap} {f : Addr} {fd : FuncData} (F : Fun K "_law_plan_boxes" "_law_plan_boxes" s_Lplan_boxes f fd) (z_len : mg "len" = none) {f_Lput : Addr} {fd_Lput : FuncData} (F_Lput : FnG P w K mg base CX0 1 f_Lput fd_Lput ["_law_one_here", "_law_other", "_law_axis"] (liftSp K sp_Lput)) (g_Lput : mg "_law_put" = some (.ref f_Lput)) (k_Lput : PySem.W.keepIn K (.ref f_Lput) = true) (b_Lput : Binds K fd_Lput ["_law_one_here", "_law_other", "_law_axis"] []) : FnG P w K mg base CX0 2 f fd ["_law_kinds_here", "_law_plan"] (liftSp K sp_Lplan_boxes) := by
  have nd := sc_Lplan_boxes.nd
  replace F_Lput := F_Lput.mono (show 1 ≤ 1 by decide)
  refine okD (wb := w_Lplan_boxes) F sc_Lplan_boxes ln_Lplan_boxes (fun cdv A outer s H E hr => ?_) rd_Lplan_boxes
  exact (jss_cons (jset 2 nd (jm_l (jl_lst ja_nil)))
    (jss_cons (js_for PassesOwn.never rfl (ji_seq (jv 1)) (jgn 3 nd) (jss_one (js_append (jpv 2) (je_ifE (jt_cmp (d_eq hr.u64) (je_fn c_len rfl z_len boot_len (ja_cons (jv 3) ja_nil)) je_int) (je_ix d_ix (jv 0) (je_ix d_ix (jv 3) je_int (fun _ _ => rfl)) (fun _ _ => rfl)) (je_call (m := []) F_Lput hr rfl g_Lput k_Lput b_Lput (ja_cons (je_ix d_ix (jv 2) (je_ix d_ix (jv 3) je_int (fun _ _ => rfl)) (fun _ _ => rfl)) (ja_cons (je_ix d_ix (jv 2) (je_ix d_ix (jv 3) je_int (fun _ _ => rfl)) (fun _ _ => rfl)) (ja_cons (je_ix d_ix (jv 3) je_int (fun _ _ => rfl)) ja_nil))))) rfl rfl (pe_bm PySem.F.plainAttrs_list PySem.F.slot_list_append PySem.F.type_list_append mt_append (jpv 2) (pa_cons (je_ifE (jt_cmp (d_eq hr.u64) (je_fn c_len rfl z_len boot_len (ja_cons (jv 3) ja_nil)) je_int) (je_ix d_ix (jv 0) (je_ix d_ix (jv 3) je_int (fun _ _ => rfl)) (fun _ _ => rfl)) (je_call (m := []) F_Lput hr rfl g_Lput k_Lput b_Lput (ja_cons (je_ix d_ix (jv 2) (je_ix d_ix (jv 3) je_int (fun _ _ => rfl)) (fun _ _ => rfl)) (ja_cons (je_ix d_ix (jv 2) (je_ix d_ix (jv 3) je_int (fun _ _ => rfl)) (fun _ _ => rfl)) (ja_cons (je_ix d_ix (jv 3) je_int (fun _ _ => rfl)) ja_nil))))) pa_nil)))))
    (jss_one (js_ret (jv 2)))))
set_option maxHeartbeats 0 in
theorem ok_Lcells {P : Program} {w : World} {K : PySem.W.Frag} {mg : Str → Option Value} {base : Heap} {f : Addr} {fd : FuncData} (F : Fun K "_law_cells" "_law_cells" s_Lcells f fd) (z_list : mg "list" = none) (z_range : mg "range" = none) : FnG P w K mg base CX0 1 f fd ["_law_sides_here"] (liftSp K sp_Lcells) := by
  have nd := sc_Lcells.nd
  refine okD (wb := w_Lcells) F sc_Lcells ln_Lcells (fun cdv A outer s H E hr => ?_) rd_Lcells
  exact (jss_cons (jset 1 nd (jm_e (je_ofL (jl_lst (ja_cons (je_tup ja_nil) ja_nil)))))
    (jss_cons (js_for PassesOwn.never rfl (ji_seq (jv 0)) (jgn 2 nd) (jss_cons (jset 3 nd (jm_l (jl_lst ja_nil)))
    (jss_cons (js_for PassesOwn.never rfl (ji_seq (je_ofL (jl_ty c_lst rfl z_list boot_list (ja_cons (jv 1) ja_nil)))) (jgn 4 nd) (jss_one (js_extend (jpv 3) (je_ofL (jl_comp (own := [("_law_k", 5)]) rfl nd (ji_range1 rfl z_range (ja_cons (jv 2) ja_nil)) (blkOk_by (by kernel_rfl)) (by decide) (fun _ _ _ _ _ => (jgn 5 nd)) (fun _ _ _ _ _ => jts_nil) (fun _ _ _ _ _ => (je_op d_addB (jv 4) (je_tup (ja_cons (jv 5) ja_nil)))))) rfl rfl (pe_bm PySem.F.plainAttrs_list PySem.F.slot_list_extend PySem.F.type_list_extend mt_extend (jpv 3) (pa_cons (je_ofL (jl_comp (own := [("_law_k", 5)]) rfl nd (ji_range1 rfl z_range (ja_cons (jv 2) ja_nil)) (blkOk_by (by kernel_rfl)) (by decide) (fun _ _ _ _ _ => (jgn 5 nd)) (fun _ _ _ _ _ => jts_nil) (fun _ _ _ _ _ => (je_op d_addB (jv 4) (je_tup (ja_cons (jv 5) ja_nil)))))) pa_nil)))))
    (jss_one (jset 1 nd (jm_e (jv 3)))))))
    (jss_one (js_ret (jv 1)))))
set_option maxHeartbeats 0 in
theorem ok_Lsmaller {P : Program} {w : World} {K : PySem.W.Frag} {mg : Str → Option Value} {base : Heap} {f : Addr} {fd : FuncData} (F : Fun K "_law_smaller" "_law_smaller" s_Lsmaller f fd) (z_tuple : mg "tuple" = none) {f_Lcells : Addr} {fd_Lcells : FuncData} (F_Lcells : FnG P w K mg base CX0 1 f_Lcells fd_Lcells ["_law_sides_here"] (liftSp K sp_Lcells)) (g_Lcells : mg "_law_cells" = some (.ref f_Lcells)) (k_Lcells : PySem.W.keepIn K (.ref f_Lcells) = true) (b_Lcells : Binds K fd_Lcells ["_law_sides_here"] []) : FnG P w K mg base CX0 2 f fd ["_law_box"] (liftSp K sp_Lsmaller) := by
  have nd := sc_Lsmaller.nd
  replace F_Lcells := F_Lcells.mono (show 1 ≤ 1 by decide)
  refine okD (wb := w_Lsmaller) F sc_Lsmaller ln_Lsmaller (fun cdv A outer s H E hr => ?_) rd_Lsmaller
  exact (jss_one (js_ret (je_ofL (jl_comp (own := [("_law_cell", 2)]) rfl nd (ji_seq (je_call (m := []) F_Lcells hr rfl g_Lcells k_Lcells b_Lcells (ja_cons (jv 0) ja_nil))) (blkOk_by (by kernel_rfl)) (by decide) (fun _ _ _ _ _ => (jgn 2 nd)) (fun _ _ _ _ _ => jts_nil) (fun _ _ _ _ _ => (je_ty c_tup rfl z_tuple boot_tuple (ja_cons (je_ofL (jl_comp (own := [("_law_k", 1)]) rfl nd (ji_seq (jv 2)) (blkOk_by (by kernel_rfl)) (by decide) (fun _ _ _ _ _ => (jgn 1 nd)) (fun _ _ _ _ _ => jts_nil) (fun _ _ _ _ _ => (je_op d_addB (jv 1) je_int)))) ja_nil)))))))
set_option maxHeartbeats 0 in
theorem ok_Lleast {P : Program} {w : World} {K : PySem.W.Frag} {mg : Str → Option Value} {base : Heap} {f : Addr} {fd : FuncData} (F : Fun K "_law_least" "_law_least" s_Lleast f fd) (z_min : mg "min" = none) (z_len : mg "len" = none) (z_range : mg "range" = none) {f_Lsmaller : Addr} {fd_Lsmaller : FuncData} (F_Lsmaller : FnG P w K mg base CX0 2 f_Lsmaller fd_Lsmaller ["_law_box"] (liftSp K sp_Lsmaller)) (g_Lsmaller : mg "_law_smaller" = some (.ref f_Lsmaller)) (k_Lsmaller : PySem.W.keepIn K (.ref f_Lsmaller) = true) (b_Lsmaller : Binds K fd_Lsmaller ["_law_box"] []) : FnG P w K mg base CX0 3 f fd ["_law_kinds_here", "_law_box"] (liftSp K sp_Lleast) := by
  have nd := sc_Lleast.nd
  replace F_Lsmaller := F_Lsmaller.mono (show 2 ≤ 2 by decide)
  refine okD (wb := w_Lleast) F sc_Lleast ln_Lleast (fun cdv A outer s H E hr => ?_) rd_Lleast
  exact (jss_cons (jset 2 nd jm_dict)
    (jss_cons (js_for PassesOwn.never rfl (ji_seq (je_call (m := []) F_Lsmaller hr rfl g_Lsmaller k_Lsmaller b_Lsmaller (ja_cons (jv 1) ja_nil))) (jgn 3 nd) (jss_cons (jset 4 nd (jm_l (jl_ifE (jt_cmp (d_in hr.u65) (jv 3) (jv 0)) (jl_lst (ja_cons je_int ja_nil)) (jl_lst ja_nil))))
    (jss_cons (js_for PassesOwn.never rfl (ji_range1 rfl z_range (ja_cons (je_fn c_len rfl z_len boot_len (ja_cons (jv 3) ja_nil)) ja_nil)) (jgn 5 nd) (jss_one (js_for PassesOwn.never rfl (ji_range2 rfl z_range (ja_cons je_int (ja_cons (je_ix d_ix (jv 3) (jv 5) (fun _ _ => rfl)) ja_nil))) (jgn 6 nd) (jss_cons (jset 7 nd (jm_e (je_op d_addB (je_op d_addB (je_sl d_sl (jv 3) jo_none (jo_some (jv 5))) (je_tup (ja_cons (jv 6) ja_nil))) (je_sl d_sl (jv 3) (jo_some (je_op d_addB (jv 5) je_int)) jo_none))))
    (jss_cons (jset 8 nd (jm_e (je_op d_addB (je_op d_addB (je_sl d_sl (jv 3) jo_none (jo_some (jv 5))) (je_tup (ja_cons (je_op d_subB (je_ix d_ix (jv 3) (jv 5) (fun _ _ => rfl)) (jv 6)) ja_nil))) (je_sl d_sl (jv 3) (jo_some (je_op d_addB (jv 5) je_int)) jo_none))))
    (jss_one (js_if (jt_w (jw_and (jt_din hr.u64 (jv 7) (jpv 2)) (jw_and1 (jt_din hr.u64 (jv 8) (jpv 2))))) (jss_one (js_append (jpv 4) (je_op d_addB (je_dget hr.u64 (jv 7) (jpv 2)) (je_dget hr.u64 (jv 8) (jpv 2))) rfl rfl (pe_bm PySem.F.plainAttrs_list PySem.F.slot_list_append PySem.F.type_list_append mt_append (jpv 4) (pa_cons (je_op d_addB (je_dget hr.u64 (jv 7) (jpv 2)) (je_dget hr.u64 (jv 8) (jpv 2))) pa_nil)))) jss_nil)))))))
    (jss_one (js_if (jt_cmp (d_ne hr.u64) (jv 4) (je_ofL (jl_lst ja_nil))) (jss_one (js_dput hr.u64 (jpv 2) (jv 3) (je_fn (c_minS rfl hr.u64) rfl z_min boot_min (ja_cons (jv 4) ja_nil)))) jss_nil)))))
    (jss_one (js_ret (je_varF (jpv 2))))))
set_option maxHeartbeats 0 in
theorem ok_Lright {P : Program} {w : World} {K : PySem.W.Frag} {mg : Str → Option Value} {base : Heap} {f : Addr} {fd : FuncData} (F : Fun K "_law_right" "_law_right" s_Lright f fd) (z_repr : mg "repr" = none) {f_Lplan_boxes : Addr} {fd_Lplan_boxes : FuncData} (F_Lplan_boxes : FnG P w K mg base CX0 2 f_Lplan_boxes fd_Lplan_boxes ["_law_kinds_here", "_law_plan"] (liftSp K sp_Lplan_boxes)) (g_Lplan_boxes : mg "_law_plan_boxes" = some (.ref f_Lplan_boxes)) (k_Lplan_boxes : PySem.W.keepIn K (.ref f_Lplan_boxes) = true) (b_Lplan_boxes : Binds K fd_Lplan_boxes ["_law_kinds_here", "_law_plan"] []) {f_Lplan_error : Addr} {fd_Lplan_error : FuncData} (F_Lplan_error : FnG P w K mg base CX0 3 f_Lplan_error fd_Lplan_error ["_law_kinds_here", "_law_value"] (liftSp K sp_Lplan_error)) (g_Lplan_error : mg "_law_plan_error" = some (.ref f_Lplan_error)) (k_Lplan_error : PySem.W.keepIn K (.ref f_Lplan_error) = true) (b_Lplan_error : Binds K fd_Lplan_error ["_law_kinds_here", "_law_value"] []) {f_chop : Addr} {fd_chop : FuncData} (F_chop : FnG P w K mg base CX0 6 f_chop fd_chop ["kinds", "box"] (liftSp K sp_chop)) (g_chop : mg "chop" = some (.ref f_chop)) (k_chop : PySem.W.keepIn K (.ref f_chop) = true) (b_chop : Binds K fd_chop ["kinds", "box"] []) {f_chopped : Addr} {fd_chopped : FuncData} (F_chopped : FnG P w K mg base CX0 5 f_chopped fd_chopped ["kinds", "box"] (liftSp K sp_chopped)) (g_chopped : mg "chopped" = some (.ref f_chopped)) (k_chopped : PySem.W.keepIn K (.ref f_chopped) = true) (b_chopped : Binds K fd_chopped ["kinds", "box"] []) {f_Lleast : Addr} {fd_Lleast : FuncData} (F_Lleast : FnG P w K mg base CX0 3 f_Lleast fd_Lleast ["_law_kinds_here", "_law_box"] (liftSp K sp_Lleast)) (g_Lleast : mg "_law_least" = some (.ref f_Lleast)) (k_Lleast : PySem.W.keepIn K (.ref f_Lleast) = true) (b_Lleast : Binds K fd_Lleast ["_law_kinds_here", "_law_box"] []) : FnG P w K mg base CX0 7 f fd ["_law_kinds_here", "_law_box"] (liftSp K sp_Lright) := by
  have nd := sc_Lright.nd
  replace F_Lplan_boxes := F_Lplan_boxes.mono (show 2 ≤ 6 by decide)
  replace F_Lplan_error := F_Lplan_error.mono (show 3 ≤ 6 by decide)
  replace F_chop := F_chop.mono (show 6 ≤ 6 by decide)
  replace F_chopped := F_chopped.mono (show 5 ≤ 6 by decide)
  replace F_Lleast := F_Lleast.mono (show 3 ≤ 6 by decide)
  refine okD (wb := w_Lright) F sc_Lright ln_Lright (fun cdv A outer s H E hr => ?_) rd_Lright
  exact (jss_cons (jpar (i := 2) (j := 3) rfl nd rfl rfl (by decide) (jms_cons (jm_e (je_cmp (d_inT hr.u64) (jv 1) (je_call (m := []) F_Lleast hr rfl g_Lleast k_Lleast b_Lleast (ja_cons (jv 0) (ja_cons (jv 1) ja_nil))))) (jms_cons (jm_e (je_call (m := []) F_chop hr rfl g_chop k_chop b_chop (ja_cons (jv 0) (ja_cons (jv 1) ja_nil)))) jms_nil)))
    (jss_cons (js_if (jt_w (jw_or (jt_cmp (d_ne hr.u64) (je_fn (c_reprN hr.gd hr.u64) rfl z_repr boot_repr (ja_cons (je_ofL (jl_lst (ja_cons (je_call (m := []) F_chopped hr rfl g_chopped k_chopped b_chopped (ja_cons (jv 0) (ja_cons (jv 1) ja_nil))) (ja_cons (je_call (m := []) F_chop hr rfl g_chop k_chop b_chop (ja_cons (jv 0) (ja_cons (jv 1) ja_nil))) ja_nil)))) ja_nil)) (je_fn (c_reprN hr.gd hr.u64) rfl z_repr boot_repr (ja_cons (je_ofL (jl_lst (ja_cons (jv 2) (ja_cons (jv 3) ja_nil)))) ja_nil))) (jw_or1 (jt_cmp (d_ne hr.u64) (je_cmp d_isnot (jv 3) je_non) (jv 2))))) (jss_one (js_ret je_bl)) jss_nil)
    (jss_cons (js_if (jt_cmp d_is (jv 3) je_non) (jss_one (js_ret je_bl)) jss_nil)
    (jss_one (js_ret (je_and (je_cmp d_is (je_call (m := []) F_Lplan_error hr rfl g_Lplan_error k_Lplan_error b_Lplan_error (ja_cons (jv 0) (ja_cons (jv 3) ja_nil))) je_non) (je_one (je_cmp (d_eq hr.u64) (je_fn (c_reprN hr.gd hr.u64) rfl z_repr boot_repr (ja_cons (je_ix d_ix (je_call (m := []) F_Lplan_boxes hr rfl g_Lplan_boxes k_Lplan_boxes b_Lplan_boxes (ja_cons (jv 0) (ja_cons (jv 3) ja_nil))) (je_neg je_int) (fun _ _ => rfl)) ja_nil)) (je_fn (c_reprN hr.gd hr.u64) rfl z_repr boot_repr (ja_cons (jv 1) ja_nil))))))))))
set_option maxHeartbeats 0 in
theorem ok_law {P : Program} {w : World} {K : PySem.W.Frag} {mg : Str → Option Value} {base : Heap} {f : Addr} {fd : FuncData} (F : Fun K "law" "law" s_law f fd) (z_repr : mg "repr" = none) (z_range : mg "range" = none) (z_tuple : mg "tuple" = none) {f_chopped : Addr} {fd_chopped : FuncData} (F_chopped : FnG P w K mg base CX0 5 f_chopped fd_chopped ["kinds", "box"] (liftSp K sp_chopped)) (g_chopped : mg "chopped" = some (.ref f_chopped)) (k_chopped : PySem.W.keepIn K (.ref f_chopped) = true) (b_chopped : Binds K fd_chopped ["kinds", "box"] []) {f_Lright : Addr} {fd_Lright : FuncData} (F_Lright : FnG P w K mg base CX0 7 f_Lright fd_Lright ["_law_kinds_here", "_law_box"] (liftSp K sp_Lright)) (g_Lright : mg "_law_right" = some (.ref f_Lright)) (k_Lright : PySem.W.keepIn K (.ref f_Lright) = true) (b_Lright : Binds K fd_Lright ["_law_kinds_here", "_law_box"] []) {f_Lwheel : Addr} {fd_Lwheel : FuncData} (F_Lwheel : FnG P w K mg base CX0 2 f_Lwheel fd_Lwheel ["_law_deck_here"] (liftSp K sp_Lwheel)) (g_Lwheel : mg "_law_wheel" = some (.ref f_Lwheel)) (k_Lwheel : PySem.W.keepIn K (.ref f_Lwheel) = true) (b_Lwheel : Binds K fd_Lwheel ["_law_deck_here"] []) {f_Lsmall_box : Addr} {fd_Lsmall_box : FuncData} (F_Lsmall_box : FnG P w K mg base CX0 3 f_Lsmall_box fd_Lsmall_box ["_law_deck_here", "_law_kinds_here", "_law_cells_here"] (liftSp K sp_Lsmall_box)) (g_Lsmall_box : mg "_law_small_box" = some (.ref f_Lsmall_box)) (k_Lsmall_box : PySem.W.keepIn K (.ref f_Lsmall_box) = true) (b_Lsmall_box : Binds K fd_Lsmall_box ["_law_deck_here", "_law_kinds_here", "_law_cells_here"] []) {f_Ldraw : Addr} {fd_Ldraw : FuncData} (F_Ldraw : FnG P w K mg base CX0 1 f_Ldraw fd_Ldraw ["_law_deck_here", "_law_many"] (liftSp K sp_Ldraw)) (g_Ldraw : mg "_law_draw" = some (.ref f_Ldraw)) (k_Ldraw : PySem.W.keepIn K (.ref f_Ldraw) = true) (b_Ldraw : Binds K fd_Ldraw ["_law_deck_here", "_law_many"] []) {f_Lone : Addr} {fd_Lone : FuncData} (F_Lone : FnG P w K mg base CX0 2 f_Lone fd_Lone ["_law_deck_here", "_law_items"] (liftSp K sp_Lone)) (g_Lone : mg "_law_one" = some (.ref f_Lone)) (k_Lone : PySem.W.keepIn K (.ref f_Lone) = true) (b_Lone : Binds K fd_Lone ["_law_deck_here", "_law_items"] []) {f_Lkinds : Addr} {fd_Lkinds : FuncData} (F_Lkinds : FnG P w K mg base CX0 3 f_Lkinds fd_Lkinds ["_law_deck_here", "_law_axes", "_law_many", "_law_most"] (liftSp K sp_Lkinds)) (g_Lkinds : mg "_law_kinds" = some (.ref f_Lkinds)) (k_Lkinds : PySem.W.keepIn K (.ref f_Lkinds) = true) (b_Lkinds : Binds K fd_Lkinds ["_law_deck_here", "_law_axes", "_law_many", "_law_most"] []) {f_Ldeck : Addr} {fd_Ldeck : FuncData} (F_Ldeck : FnG P w K mg base CX0 1 f_Ldeck fd_Ldeck ["_law_script"] (liftM K sp_Ldeck)) (g_Ldeck : mg "_law_deck" = some (.ref f_Ldeck)) (k_Ldeck : PySem.W.keepIn K (.ref f_Ldeck) = true) (b_Ldeck : Binds K fd_Ldeck ["_law_script"] []) : FnG P w K mg base CX0 8 f fd ["_law_script"] (liftSp K sp_law) := by
  have nd := sc_law.nd
  replace F_chopped := F_chopped.mono (show 5 ≤ 7 by decide)
  replace F_Lright := F_Lright.mono (show 7 ≤ 7 by decide)
  replace F_Lwheel := F_Lwheel.mono (show 2 ≤ 7 by decide)
  replace F_Lsmall_box := F_Lsmall_box.mono (show 3 ≤ 7 by decide)
  replace F_Ldraw := F_Ldraw.mono (show 1 ≤ 7 by decide)
  replace F_Lone := F_Lone.mono (show 2 ≤ 7 by decide)
  replace F_Lkinds := F_Lkinds.mono (show 3 ≤ 7 by decide)
  replace F_Ldeck := F_Ldeck.mono (show 1 ≤ 7 by decide)
  refine okD (wb := w_law) F sc_law ln_law (fun cdv A outer s H E hr => ?_) rd_law
  exact (jss_cons (jset 1 nd (jm_call (m := [true]) F_Ldeck hr rfl g_Ldeck k_Ldeck b_Ldeck (ja_cons (jv 0) ja_nil)))
    (jss_cons (js_for PassesOwn.never rfl (ji_range1 rfl z_range (ja_cons je_int ja_nil)) (jgn 2 nd) (jss_cons (jset 3 nd (jm_e (je_op d_addB je_int (je_call (m := [true, false]) F_Ldraw hr rfl g_Ldraw k_Ldraw b_Ldraw (ja_cons (jv 1) (ja_cons je_int ja_nil))))))
    (jss_cons (jset 4 nd (jm_e (je_call (m := [true, false, false, false]) F_Lkinds hr rfl g_Lkinds k_Lkinds b_Lkinds (ja_cons (jv 1) (ja_cons (jv 3) (ja_cons (je_op d_addB je_int (je_call (m := [true, false]) F_Ldraw hr rfl g_Ldraw k_Ldraw b_Ldraw (ja_cons (jv 1) (ja_cons je_int ja_nil)))) (ja_cons (je_ix d_ix (je_ofL (jl_lst (ja_cons je_int (ja_cons je_int (ja_cons je_int (ja_cons je_int ja_nil)))))) (je_op d_subB (jv 3) je_int) (fun _ _ => rfl)) ja_nil)))))))
    (jss_cons (js_if (jt_cmp (d_eq hr.u64) (je_call (m := [true, false]) F_Ldraw hr rfl g_Ldraw k_Ldraw b_Ldraw (ja_cons (jv 1) (ja_cons je_int ja_nil))) je_int) (jss_cons (jset 5 nd (jm_e (je_ty c_tup rfl z_tuple boot_tuple (ja_cons (je_ofL (jl_comp (own := [("_law_axis", 6)]) rfl nd (ji_range1 rfl z_range (ja_cons (jv 3) ja_nil)) (blkOk_by (by kernel_rfl)) (by decide) (fun _ _ _ _ _ => (jgn 6 nd)) (fun _ _ _ _ _ => jts_nil) (fun _ _ _ _ _ => (je_call (m := [true, false]) F_Lone hr rfl g_Lone k_Lone b_Lone (ja_cons (jv 1) (ja_cons (je_ofL (jl_lst (ja_cons je_int (ja_cons je_int (ja_cons (je_op d_subB (je_op d_pow je_int je_int) (je_call (m := [true, false]) F_Ldraw hr rfl g_Ldraw k_Ldraw b_Ldraw (ja_cons (jv 1) (ja_cons je_int ja_nil)))) ja_nil))))) ja_nil)))))) ja_nil))))
    (jss_one (jset 4 nd (jm_e (je_call (m := [true, false]) F_Lone hr rfl g_Lone k_Lone b_Lone (ja_cons (jv 1) (ja_cons (je_ofL (jl_lst (ja_cons (je_op d_addB (je_tup (ja_cons (jv 5) ja_nil)) (je_sl d_sl (jv 4) jo_none (jo_some je_int))) (ja_cons (je_op d_addB (je_sl d_sl (jv 4) jo_none (jo_some je_int)) (je_tup (ja_cons (jv 5) ja_nil))) ja_nil)))) ja_nil))))))) jss_nil)
    (jss_cons (js_if (jt_not (jt_val (je_call (m := []) F_Lright hr rfl g_Lright k_Lright b_Lright (ja_cons (jv 4) (ja_cons (je_call (m := [true, false, false]) F_Lsmall_box hr rfl g_Lsmall_box k_Lsmall_box b_Lsmall_box (ja_cons (jv 1) (ja_cons (jv 4) (ja_cons je_int ja_nil)))) ja_nil))))) (jss_one (js_ret je_bl)) jss_nil)
    (jss_cons (jset 7 nd (jm_e (je_call (m := [true]) F_Lwheel hr rfl g_Lwheel k_Lwheel b_Lwheel (ja_cons (jv 1) ja_nil))))
    (jss_one (js_if (jt_w (jw_or (jt_not (jt_val (je_call (m := []) F_Lright hr rfl g_Lright k_Lright b_Lright (ja_cons (je_ix d_ix (jv 7) je_int (fun _ _ => rfl)) (ja_cons (je_ix d_ix (jv 7) je_int (fun _ _ => rfl)) ja_nil))))) (jw_or1 (jt_not (jt_val (je_call (m := []) F_Lright hr rfl g_Lright k_Lright b_Lright (ja_cons (je_sl d_sl (je_ix d_ix (jv 7) je_int (fun _ _ => rfl)) jo_none (jo_some je_int)) (ja_cons (je_ix d_ix (jv 7) je_int (fun _ _ => rfl)) ja_nil)))))))) (jss_one (js_ret je_bl)) jss_nil))))))))
    (jss_cons (jset 8 nd (jm_e (je_tup (ja_cons (je_tup (ja_cons je_int (ja_cons je_int ja_nil))) (ja_cons (je_tup (ja_cons je_int (ja_cons je_int ja_nil))) (ja_cons (je_tup (ja_cons je_int (ja_cons je_int ja_nil))) ja_nil))))))
    (jss_cons (jset 9 nd (jm_e (je_ofL (jl_lst (ja_cons (je_call (m := []) F_chopped hr rfl g_chopped k_chopped b_chopped (ja_cons (jv 8) (ja_cons (je_tup (ja_cons je_int (ja_cons je_int ja_nil))) ja_nil))) (ja_cons (je_call (m := []) F_chopped hr rfl g_chopped k_chopped b_chopped (ja_cons (je_sl d_sl (jv 8) jo_none (jo_some je_int)) (ja_cons (je_tup (ja_cons je_int (ja_cons je_int ja_nil))) ja_nil))) (ja_cons (je_call (m := []) F_chopped hr rfl g_chopped k_chopped b_chopped (ja_cons (je_tup (ja_cons (je_tup (ja_cons je_int ja_nil)) ja_nil)) (ja_cons (je_tup (ja_cons je_int ja_nil)) ja_nil))) ja_nil)))))))
    (jss_one (js_ret (je_cmp (d_eq hr.u64) (je_fn (c_reprN hr.gd hr.u64) rfl z_repr boot_repr (ja_cons (jv 9) ja_nil)) (je_fn (c_reprN hr.gd hr.u64) rfl z_repr boot_repr (ja_cons (je_ofL (jl_lst (ja_cons je_bl (ja_cons je_bl (ja_cons je_bl ja_nil))))) ja_nil)))))))))
end K68
set_option Elab.async false
set_option linter.all false
set_option maxRecDepth 100000
set_option maxHeartbeats 4000000
namespace K68
open PySem PySem.Spec PyProof.Rows L2 DL TW
variable [DL.Tb]
theorem all_mk {l : PySem.W.OpenLaw} {w : World} {K : PySem.W.Frag} {h : Heap} {mg : Str → Option Value} {fa : Addr} (X : K.In h) (G : h.Ns mainGlobals mg) (hfa : mg "law" = some (.ref fa))
    {od_with_side an_with_side : Option Addr} {sl_with_side : Array (Option Value)} {oc_with_side kV_with_side dc_with_side pm_with_side cd_with_side ct_with_side : Value} {f_with_side : Addr}
    (a_with_side : PySem.W.nsIn K mainGlobals "with_side" = some (some (.ref f_with_side))) (l_with_side : K.lookup f_with_side = some ⟨oc_with_side, od_with_side, .func (PySem.W.fnOf "with_side" "with_side" (defArgs s_with_side) (defBody s_with_side) (defScope s_with_side) .none kV_with_side dc_with_side pm_with_side an_with_side cd_with_side ct_with_side), sl_with_side⟩) (c_with_side : PySem.W.codeIn K cd_with_side "with_side" = true) (k_with_side : PySem.W.keepIn K (.ref f_with_side) = true)
    {od_all_boxes an_all_boxes : Option Addr} {sl_all_boxes : Array (Option Value)} {oc_all_boxes kV_all_boxes dc_all_boxes pm_all_boxes cd_all_boxes ct_all_boxes : Value} {f_all_boxes : Addr}
    (a_all_boxes : PySem.W.nsIn K mainGlobals "all_boxes" = some (some (.ref f_all_boxes))) (l_all_boxes : K.lookup f_all_boxes = some ⟨oc_all_boxes, od_all_boxes, .func (PySem.W.fnOf "all_boxes" "all_boxes" (defArgs s_all_boxes) (defBody s_all_boxes) (defScope s_all_boxes) .none kV_all_boxes dc_all_boxes pm_all_boxes an_all_boxes cd_all_boxes ct_all_boxes), sl_all_boxes⟩) (c_all_boxes : PySem.W.codeIn K cd_all_boxes "all_boxes" = true) (k_all_boxes : PySem.W.keepIn K (.ref f_all_boxes) = true)
    {od_best_ways an_best_ways : Option Addr} {sl_best_ways : Array (Option Value)} {oc_best_ways kV_best_ways dc_best_ways pm_best_ways cd_best_ways ct_best_ways : Value} {f_best_ways : Addr}
    (a_best_ways : PySem.W.nsIn K mainGlobals "best_ways" = some (some (.ref f_best_ways))) (l_best_ways : K.lookup f_best_ways = some ⟨oc_best_ways, od_best_ways, .func (PySem.W.fnOf "best_ways" "best_ways" (defArgs s_best_ways) (defBody s_best_ways) (defScope s_best_ways) .none kV_best_ways dc_best_ways pm_best_ways an_best_ways cd_best_ways ct_best_ways), sl_best_ways⟩) (c_best_ways : PySem.W.codeIn K cd_best_ways "best_ways" = true) (k_best_ways : PySem.W.keepIn K (.ref f_best_ways) = true)
    {od_chopped an_chopped : Option Addr} {sl_chopped : Array (Option Value)} {oc_chopped kV_chopped dc_chopped pm_chopped cd_chopped ct_chopped : Value} {f_chopped : Addr}
    (a_chopped : PySem.W.nsIn K mainGlobals "chopped" = some (some (.ref f_chopped))) (l_chopped : K.lookup f_chopped = some ⟨oc_chopped, od_chopped, .func (PySem.W.fnOf "chopped" "chopped" (defArgs s_chopped) (defBody s_chopped) (defScope s_chopped) .none kV_chopped dc_chopped pm_chopped an_chopped cd_chopped ct_chopped), sl_chopped⟩) (c_chopped : PySem.W.codeIn K cd_chopped "chopped" = true) (k_chopped : PySem.W.keepIn K (.ref f_chopped) = true)
    {od_Ldeck an_Ldeck : Option Addr} {sl_Ldeck : Array (Option Value)} {oc_Ldeck kV_Ldeck dc_Ldeck pm_Ldeck cd_Ldeck ct_Ldeck : Value} {f_Ldeck : Addr}
    (a_Ldeck : PySem.W.nsIn K mainGlobals "_law_deck" = some (some (.ref f_Ldeck))) (l_Ldeck : K.lookup f_Ldeck = some ⟨oc_Ldeck, od_Ldeck, .func (PySem.W.fnOf "_law_deck" "_law_deck" (defArgs s_Ldeck) (defBody s_Ldeck) (defScope s_Ldeck) .none kV_Ldeck dc_Ldeck pm_Ldeck an_Ldeck cd_Ldeck ct_Ldeck), sl_Ldeck⟩) (c_Ldeck : PySem.W.codeIn K cd_Ldeck "_law_deck" = true) (k_Ldeck : PySem.W.keepIn K (.ref f_Ldeck) = true)
    {od_Ldraw an_Ldraw : Option Addr} {sl_Ldraw : Array (Option Value)} {oc_Ldraw kV_Ldraw dc_Ldraw pm_Ldraw cd_Ldraw ct_Ldraw : Value} {f_Ldraw : Addr}
    (a_Ldraw : PySem.W.nsIn K mainGlobals "_law_draw" = some (some (.ref f_Ldraw))) (l_Ldraw : K.lookup f_Ldraw = some ⟨oc_Ldraw, od_Ldraw, .func (PySem.W.fnOf "_law_draw" "_law_draw" (defArgs s_Ldraw) (defBody s_Ldraw) (defScope s_Ldraw) .none kV_Ldraw dc_Ldraw pm_Ldraw an_Ldraw cd_Ldraw ct_Ldraw), sl_Ldraw⟩) (c_Ldraw : PySem.W.codeIn K cd_Ldraw "_law_draw" = true) (k_Ldraw : PySem.W.keepIn K (.ref f_Ldraw) = true)
    {od_Lone an_Lone : Option Addr} {sl_Lone : Array (Option Value)} {oc_Lone kV_Lone dc_Lone pm_Lone cd_Lone ct_Lone : Value} {f_Lone : Addr}
    (a_Lone : PySem.W.nsIn K mainGlobals "_law_one" = some (some (.ref f_Lone))) (l_Lone : K.lookup f_Lone = some ⟨oc_Lone, od_Lone, .func (PySem.W.fnOf "_law_one" "_law_one" (defArgs s_Lone) (defBody s_Lone) (defScope s_Lone) .none kV_Lone dc_Lone pm_Lone an_Lone cd_Lone ct_Lone), sl_Lone⟩) (c_Lone : PySem.W.codeIn K cd_Lone "_law_one" = true) (k_Lone : PySem.W.keepIn K (.ref f_Lone) = true)
    {od_Lsides an_Lsides : Option Addr} {sl_Lsides : Array (Option Value)} {oc_Lsides kV_Lsides dc_Lsides pm_Lsides cd_Lsides ct_Lsides : Value} {f_Lsides : Addr}
    (a_Lsides : PySem.W.nsIn K mainGlobals "_law_sides" = some (some (.ref f_Lsides))) (l_Lsides : K.lookup f_Lsides = some ⟨oc_Lsides, od_Lsides, .func (PySem.W.fnOf "_law_sides" "_law_sides" (defArgs s_Lsides) (defBody s_Lsides) (defScope s_Lsides) .none kV_Lsides dc_Lsides pm_Lsides an_Lsides cd_Lsides ct_Lsides), sl_Lsides⟩) (c_Lsides : PySem.W.codeIn K cd_Lsides "_law_sides" = true) (k_Lsides : PySem.W.keepIn K (.ref f_Lsides) = true)
    {od_Lkinds an_Lkinds : Option Addr} {sl_Lkinds : Array (Option Value)} {oc_Lkinds kV_Lkinds dc_Lkinds pm_Lkinds cd_Lkinds ct_Lkinds : Value} {f_Lkinds : Addr}
    (a_Lkinds : PySem.W.nsIn K mainGlobals "_law_kinds" = some (some (.ref f_Lkinds))) (l_Lkinds : K.lookup f_Lkinds = some ⟨oc_Lkinds, od_Lkinds, .func (PySem.W.fnOf "_law_kinds" "_law_kinds" (defArgs s_Lkinds) (defBody s_Lkinds) (defScope s_Lkinds) .none kV_Lkinds dc_Lkinds pm_Lkinds an_Lkinds cd_Lkinds ct_Lkinds), sl_Lkinds⟩) (c_Lkinds : PySem.W.codeIn K cd_Lkinds "_law_kinds" = true) (k_Lkinds : PySem.W.keepIn K (.ref f_Lkinds) = true)
    {od_Lwheel an_Lwheel : Option Addr} {sl_Lwheel : Array (Option Value)} {oc_Lwheel kV_Lwheel dc_Lwheel pm_Lwheel cd_Lwheel ct_Lwheel : Value} {f_Lwheel : Addr}
    (a_Lwheel : PySem.W.nsIn K mainGlobals "_law_wheel" = some (some (.ref f_Lwheel))) (l_Lwheel : K.lookup f_Lwheel = some ⟨oc_Lwheel, od_Lwheel, .func (PySem.W.fnOf "_law_wheel" "_law_wheel" (defArgs s_Lwheel) (defBody s_Lwheel) (defScope s_Lwheel) .none kV_Lwheel dc_Lwheel pm_Lwheel an_Lwheel cd_Lwheel ct_Lwheel), sl_Lwheel⟩) (c_Lwheel : PySem.W.codeIn K cd_Lwheel "_law_wheel" = true) (k_Lwheel : PySem.W.keepIn K (.ref f_Lwheel) = true)
    {od_Lvolume an_Lvolume : Option Addr} {sl_Lvolume : Array (Option Value)} {oc_Lvolume kV_Lvolume dc_Lvolume pm_Lvolume cd_Lvolume ct_Lvolume : Value} {f_Lvolume : Addr}
    (a_Lvolume : PySem.W.nsIn K mainGlobals "_law_volume" = some (some (.ref f_Lvolume))) (l_Lvolume : K.lookup f_Lvolume = some ⟨oc_Lvolume, od_Lvolume, .func (PySem.W.fnOf "_law_volume" "_law_volume" (defArgs s_Lvolume) (defBody s_Lvolume) (defScope s_Lvolume) .none kV_Lvolume dc_Lvolume pm_Lvolume an_Lvolume cd_Lvolume ct_Lvolume), sl_Lvolume⟩) (c_Lvolume : PySem.W.codeIn K cd_Lvolume "_law_volume" = true) (k_Lvolume : PySem.W.keepIn K (.ref f_Lvolume) = true)
    {od_Lsmall_box an_Lsmall_box : Option Addr} {sl_Lsmall_box : Array (Option Value)} {oc_Lsmall_box kV_Lsmall_box dc_Lsmall_box pm_Lsmall_box cd_Lsmall_box ct_Lsmall_box : Value} {f_Lsmall_box : Addr}
    (a_Lsmall_box : PySem.W.nsIn K mainGlobals "_law_small_box" = some (some (.ref f_Lsmall_box))) (l_Lsmall_box : K.lookup f_Lsmall_box = some ⟨oc_Lsmall_box, od_Lsmall_box, .func (PySem.W.fnOf "_law_small_box" "_law_small_box" (defArgs s_Lsmall_box) (defBody s_Lsmall_box) (defScope s_Lsmall_box) .none kV_Lsmall_box dc_Lsmall_box pm_Lsmall_box an_Lsmall_box cd_Lsmall_box ct_Lsmall_box), sl_Lsmall_box⟩) (c_Lsmall_box : PySem.W.codeIn K cd_Lsmall_box "_law_small_box" = true) (k_Lsmall_box : PySem.W.keepIn K (.ref f_Lsmall_box) = true)
    {od_fewest_bricks an_fewest_bricks : Option Addr} {sl_fewest_bricks : Array (Option Value)} {oc_fewest_bricks kV_fewest_bricks dc_fewest_bricks pm_fewest_bricks cd_fewest_bricks ct_fewest_bricks : Value} {f_fewest_bricks : Addr}
    (a_fewest_bricks : PySem.W.nsIn K mainGlobals "fewest_bricks" = some (some (.ref f_fewest_bricks))) (l_fewest_bricks : K.lookup f_fewest_bricks = some ⟨oc_fewest_bricks, od_fewest_bricks, .func (PySem.W.fnOf "fewest_bricks" "fewest_bricks" (defArgs s_fewest_bricks) (defBody s_fewest_bricks) (defScope s_fewest_bricks) .none kV_fewest_bricks dc_fewest_bricks pm_fewest_bricks an_fewest_bricks cd_fewest_bricks ct_fewest_bricks), sl_fewest_bricks⟩) (c_fewest_bricks : PySem.W.codeIn K cd_fewest_bricks "fewest_bricks" = true) (k_fewest_bricks : PySem.W.keepIn K (.ref f_fewest_bricks) = true)
    {od_chop an_chop : Option Addr} {sl_chop : Array (Option Value)} {oc_chop kV_chop dc_chop pm_chop cd_chop ct_chop : Value} {f_chop : Addr}
    (a_chop : PySem.W.nsIn K mainGlobals "chop" = some (some (.ref f_chop))) (l_chop : K.lookup f_chop = some ⟨oc_chop, od_chop, .func (PySem.W.fnOf "chop" "chop" (defArgs s_chop) (defBody s_chop) (defScope s_chop) .none kV_chop dc_chop pm_chop an_chop cd_chop ct_chop), sl_chop⟩) (c_chop : PySem.W.codeIn K cd_chop "chop" = true) (k_chop : PySem.W.keepIn K (.ref f_chop) = true)
    {od_Lwhole an_Lwhole : Option Addr} {sl_Lwhole : Array (Option Value)} {oc_Lwhole kV_Lwhole dc_Lwhole pm_Lwhole cd_Lwhole ct_Lwhole : Value} {f_Lwhole : Addr}
    (a_Lwhole : PySem.W.nsIn K mainGlobals "_law_whole" = some (some (.ref f_Lwhole))) (l_Lwhole : K.lookup f_Lwhole = some ⟨oc_Lwhole, od_Lwhole, .func (PySem.W.fnOf "_law_whole" "_law_whole" (defArgs s_Lwhole) (defBody s_Lwhole) (defScope s_Lwhole) .none kV_Lwhole dc_Lwhole pm_Lwhole an_Lwhole cd_Lwhole ct_Lwhole), sl_Lwhole⟩) (c_Lwhole : PySem.W.codeIn K cd_Lwhole "_law_whole" = true) (k_Lwhole : PySem.W.keepIn K (.ref f_Lwhole) = true)
    {od_Lis_row an_Lis_row : Option Addr} {sl_Lis_row : Array (Option Value)} {oc_Lis_row kV_Lis_row dc_Lis_row pm_Lis_row cd_Lis_row ct_Lis_row : Value} {f_Lis_row : Addr}
    (a_Lis_row : PySem.W.nsIn K mainGlobals "_law_is_row" = some (some (.ref f_Lis_row))) (l_Lis_row : K.lookup f_Lis_row = some ⟨oc_Lis_row, od_Lis_row, .func (PySem.W.fnOf "_law_is_row" "_law_is_row" (defArgs s_Lis_row) (defBody s_Lis_row) (defScope s_Lis_row) .none kV_Lis_row dc_Lis_row pm_Lis_row an_Lis_row cd_Lis_row ct_Lis_row), sl_Lis_row⟩) (c_Lis_row : PySem.W.codeIn K cd_Lis_row "_law_is_row" = true) (k_Lis_row : PySem.W.keepIn K (.ref f_Lis_row) = true)
    {od_Lput an_Lput : Option Addr} {sl_Lput : Array (Option Value)} {oc_Lput kV_Lput dc_Lput pm_Lput cd_Lput ct_Lput : Value} {f_Lput : Addr}
    (a_Lput : PySem.W.nsIn K mainGlobals "_law_put" = some (some (.ref f_Lput))) (l_Lput : K.lookup f_Lput = some ⟨oc_Lput, od_Lput, .func (PySem.W.fnOf "_law_put" "_law_put" (defArgs s_Lput) (defBody s_Lput) (defScope s_Lput) .none kV_Lput dc_Lput pm_Lput an_Lput cd_Lput ct_Lput), sl_Lput⟩) (c_Lput : PySem.W.codeIn K cd_Lput "_law_put" = true) (k_Lput : PySem.W.keepIn K (.ref f_Lput) = true)
    {od_Lplan_error an_Lplan_error : Option Addr} {sl_Lplan_error : Array (Option Value)} {oc_Lplan_error kV_Lplan_error dc_Lplan_error pm_Lplan_error cd_Lplan_error ct_Lplan_error : Value} {f_Lplan_error : Addr}
    (a_Lplan_error : PySem.W.nsIn K mainGlobals "_law_plan_error" = some (some (.ref f_Lplan_error))) (l_Lplan_error : K.lookup f_Lplan_error = some ⟨oc_Lplan_error, od_Lplan_error, .func (PySem.W.fnOf "_law_plan_error" "_law_plan_error" (defArgs s_Lplan_error) (defBody s_Lplan_error) (defScope s_Lplan_error) .none kV_Lplan_error dc_Lplan_error pm_Lplan_error an_Lplan_error cd_Lplan_error ct_Lplan_error), sl_Lplan_error⟩) (c_Lplan_error : PySem.W.codeIn K cd_Lplan_error "_law_plan_error" = true) (k_Lplan_error : PySem.W.keepIn K (.ref f_Lplan_error) = true)
    {od_Lplan_boxes an_Lplan_boxes : Option Addr} {sl_Lplan_boxes : Array (Option Value)} {oc_Lplan_boxes kV_Lplan_boxes dc_Lplan_boxes pm_Lplan_boxes cd_Lplan_boxes ct_Lplan_boxes : Value} {f_Lplan_boxes : Addr}
    (a_Lplan_boxes : PySem.W.nsIn K mainGlobals "_law_plan_boxes" = some (some (.ref f_Lplan_boxes))) (l_Lplan_boxes : K.lookup f_Lplan_boxes = some ⟨oc_Lplan_boxes, od_Lplan_boxes, .func (PySem.W.fnOf "_law_plan_boxes" "_law_plan_boxes" (defArgs s_Lplan_boxes) (defBody s_Lplan_boxes) (defScope s_Lplan_boxes) .none kV_Lplan_boxes dc_Lplan_boxes pm_Lplan_boxes an_Lplan_boxes cd_Lplan_boxes ct_Lplan_boxes), sl_Lplan_boxes⟩) (c_Lplan_boxes : PySem.W.codeIn K cd_Lplan_boxes "_law_plan_boxes" = true) (k_Lplan_boxes : PySem.W.keepIn K (.ref f_Lplan_boxes) = true)
    {od_Lcells an_Lcells : Option Addr} {sl_Lcells : Array (Option Value)} {oc_Lcells kV_Lcells dc_Lcells pm_Lcells cd_Lcells ct_Lcells : Value} {f_Lcells : Addr}
    (a_Lcells : PySem.W.nsIn K mainGlobals "_law_cells" = some (some (.ref f_Lcells))) (l_Lcells : K.lookup f_Lcells = some ⟨oc_Lcells, od_Lcells, .func (PySem.W.fnOf "_law_cells" "_law_cells" (defArgs s_Lcells) (defBody s_Lcells) (defScope s_Lcells) .none kV_Lcells dc_Lcells pm_Lcells an_Lcells cd_Lcells ct_Lcells), sl_Lcells⟩) (c_Lcells : PySem.W.codeIn K cd_Lcells "_law_cells" = true) (k_Lcells : PySem.W.keepIn K (.ref f_Lcells) = true)
    {od_Lsmaller an_Lsmaller : Option Addr} {sl_Lsmaller : Array (Option Value)} {oc_Lsmaller kV_Lsmaller dc_Lsmaller pm_Lsmaller cd_Lsmaller ct_Lsmaller : Value} {f_Lsmaller : Addr}
    (a_Lsmaller : PySem.W.nsIn K mainGlobals "_law_smaller" = some (some (.ref f_Lsmaller))) (l_Lsmaller : K.lookup f_Lsmaller = some ⟨oc_Lsmaller, od_Lsmaller, .func (PySem.W.fnOf "_law_smaller" "_law_smaller" (defArgs s_Lsmaller) (defBody s_Lsmaller) (defScope s_Lsmaller) .none kV_Lsmaller dc_Lsmaller pm_Lsmaller an_Lsmaller cd_Lsmaller ct_Lsmaller), sl_Lsmaller⟩) (c_Lsmaller : PySem.W.codeIn K cd_Lsmaller "_law_smaller" = true) (k_Lsmaller : PySem.W.keepIn K (.ref f_Lsmaller) = true)
    {od_Lleast an_Lleast : Option Addr} {sl_Lleast : Array (Option Value)} {oc_Lleast kV_Lleast dc_Lleast pm_Lleast cd_Lleast ct_Lleast : Value} {f_Lleast : Addr}
    (a_Lleast : PySem.W.nsIn K mainGlobals "_law_least" = some (some (.ref f_Lleast))) (l_Lleast : K.lookup f_Lleast = some ⟨oc_Lleast, od_Lleast, .func (PySem.W.fnOf "_law_least" "_law_least" (defArgs s_Lleast) (defBody s_Lleast) (defScope s_Lleast) .none kV_Lleast dc_Lleast pm_Lleast an_Lleast cd_Lleast ct_Lleast), sl_Lleast⟩) (c_Lleast : PySem.W.codeIn K cd_Lleast "_law_least" = true) (k_Lleast : PySem.W.keepIn K (.ref f_Lleast) = true)
    {od_Lright an_Lright : Option Addr} {sl_Lright : Array (Option Value)} {oc_Lright kV_Lright dc_Lright pm_Lright cd_Lright ct_Lright : Value} {f_Lright : Addr}
    (a_Lright : PySem.W.nsIn K mainGlobals "_law_right" = some (some (.ref f_Lright))) (l_Lright : K.lookup f_Lright = some ⟨oc_Lright, od_Lright, .func (PySem.W.fnOf "_law_right" "_law_right" (defArgs s_Lright) (defBody s_Lright) (defScope s_Lright) .none kV_Lright dc_Lright pm_Lright an_Lright cd_Lright ct_Lright), sl_Lright⟩) (c_Lright : PySem.W.codeIn K cd_Lright "_law_right" = true) (k_Lright : PySem.W.keepIn K (.ref f_Lright) = true)
    {od_law an_law : Option Addr} {sl_law : Array (Option Value)} {oc_law kV_law dc_law pm_law cd_law ct_law : Value} {f_law : Addr}
    (a_law : PySem.W.nsIn K mainGlobals "law" = some (some (.ref f_law))) (l_law : K.lookup f_law = some ⟨oc_law, od_law, .func (PySem.W.fnOf "law" "law" (defArgs s_law) (defBody s_law) (defScope s_law) .none kV_law dc_law pm_law an_law cd_law ct_law), sl_law⟩) (c_law : PySem.W.codeIn K cd_law "law" = true) (k_law : PySem.W.keepIn K (.ref f_law) = true)
    (z_range : PySem.W.nsIn K mainGlobals "range" = some none)
    (z_min : PySem.W.nsIn K mainGlobals "min" = some none)
    (z_enumerate : PySem.W.nsIn K mainGlobals "enumerate" = some none)
    (z_abs : PySem.W.nsIn K mainGlobals "abs" = some none)
    (z_len : PySem.W.nsIn K mainGlobals "len" = some none)
    (z_int : PySem.W.nsIn K mainGlobals "int" = some none)
    (z_tuple : PySem.W.nsIn K mainGlobals "tuple" = some none)
    (z_sorted : PySem.W.nsIn K mainGlobals "sorted" = some none)
    (z_list : PySem.W.nsIn K mainGlobals "list" = some none)
    (z_isinstance : PySem.W.nsIn K mainGlobals "isinstance" = some none)
    (z_bool : PySem.W.nsIn K mainGlobals "bool" = some none)
    (z_max : PySem.W.nsIn K mainGlobals "max" = some none)
    (z_repr : PySem.W.nsIn K mainGlobals "repr" = some none)
    {mc_best_ways mP_best_ways : Addr} (tc_best_ways : cd_best_ways = .ref mc_best_ways) (tm_best_ways : (mP_best_ways, (envOfC "best_ways" (defScope s_best_ways) 0 0 .none).qual ++ "<lambda>") ∈ Tb.T) (tu_best_ways : ∀ p ∈ Tb.T, p.1 = mP_best_ways → p.2 = (envOfC "best_ways" (defScope s_best_ways) 0 0 .none).qual ++ "<lambda>") :
    ∃ fd : FuncData, OneArgT l.prog w K mg 8 fa "_law_script" (liftSp K spLaw) [(mc_best_ways, mP_best_ways)] fd := by
  have e := hfa.symm.trans (PySem.W.mg_of X G a_law)
  cases e
  have F_with_side := fun_mk (st := s_with_side) l_with_side c_with_side k_with_side
  have b_with_side := F_with_side.binds (ps := ["box", "axis", "side"]) fun _ _ _ _ _ _ us hl => match us, hl with | [_, _, _], _ => rfl
  have F_all_boxes := fun_mk (st := s_all_boxes) l_all_boxes c_all_boxes k_all_boxes
  have b_all_boxes := F_all_boxes.binds (ps := ["box"]) fun _ _ _ _ _ _ us hl => match us, hl with | [_], _ => rfl
  have F_best_ways := fun_mk (st := s_best_ways) l_best_ways c_best_ways k_best_ways
  have b_best_ways := F_best_ways.binds (ps := ["kinds", "box"]) fun _ _ _ _ _ _ us hl => match us, hl with | [_, _], _ => rfl
  have F_chopped := fun_mk (st := s_chopped) l_chopped c_chopped k_chopped
  have b_chopped := F_chopped.binds (ps := ["kinds", "box"]) fun _ _ _ _ _ _ us hl => match us, hl with | [_, _], _ => rfl
  have F_Ldeck := fun_mk (st := s_Ldeck) l_Ldeck c_Ldeck k_Ldeck
  have b_Ldeck := F_Ldeck.binds (ps := ["_law_script"]) fun _ _ _ _ _ _ us hl => match us, hl with | [_], _ => rfl
  have F_Ldraw := fun_mk (st := s_Ldraw) l_Ldraw c_Ldraw k_Ldraw
  have b_Ldraw := F_Ldraw.binds (ps := ["_law_deck_here", "_law_many"]) fun _ _ _ _ _ _ us hl => match us, hl with | [_, _], _ => rfl
  have F_Lone := fun_mk (st := s_Lone) l_Lone c_Lone k_Lone
  have b_Lone := F_Lone.binds (ps := ["_law_deck_here", "_law_items"]) fun _ _ _ _ _ _ us hl => match us, hl with | [_, _], _ => rfl
  have F_Lsides := fun_mk (st := s_Lsides) l_Lsides c_Lsides k_Lsides
  have b_Lsides := F_Lsides.binds (ps := ["_law_deck_here", "_law_axes", "_law_most"]) fun _ _ _ _ _ _ us hl => match us, hl with | [_, _, _], _ => rfl
  have F_Lkinds := fun_mk (st := s_Lkinds) l_Lkinds c_Lkinds k_Lkinds
  have b_Lkinds := F_Lkinds.binds (ps := ["_law_deck_here", "_law_axes", "_law_many", "_law_most"]) fun _ _ _ _ _ _ us hl => match us, hl with | [_, _, _, _], _ => rfl
  have F_Lwheel := fun_mk (st := s_Lwheel) l_Lwheel c_Lwheel k_Lwheel
  have b_Lwheel := F_Lwheel.binds (ps := ["_law_deck_here"]) fun _ _ _ _ _ _ us hl => match us, hl with | [_], _ => rfl
  have F_Lvolume := fun_mk (st := s_Lvolume) l_Lvolume c_Lvolume k_Lvolume
  have b_Lvolume := F_Lvolume.binds (ps := ["_law_sides_here"]) fun _ _ _ _ _ _ us hl => match us, hl with | [_], _ => rfl
  have F_Lsmall_box := fun_mk (st := s_Lsmall_box) l_Lsmall_box c_Lsmall_box k_Lsmall_box
  have b_Lsmall_box := F_Lsmall_box.binds (ps := ["_law_deck_here", "_law_kinds_here", "_law_cells_here"]) fun _ _ _ _ _ _ us hl => match us, hl with | [_, _, _], _ => rfl
  have F_fewest_bricks := fun_mk (st := s_fewest_bricks) l_fewest_bricks c_fewest_bricks k_fewest_bricks
  have b_fewest_bricks := F_fewest_bricks.binds (ps := ["kinds", "box"]) fun _ _ _ _ _ _ us hl => match us, hl with | [_, _], _ => rfl
  have F_chop := fun_mk (st := s_chop) l_chop c_chop k_chop
  have b_chop := F_chop.binds (ps := ["kinds", "box"]) fun _ _ _ _ _ _ us hl => match us, hl with | [_, _], _ => rfl
  have F_Lwhole := fun_mk (st := s_Lwhole) l_Lwhole c_Lwhole k_Lwhole
  have b_Lwhole := F_Lwhole.binds (ps := ["_law_value", "_law_least_here", "_law_most"]) fun _ _ _ _ _ _ us hl => match us, hl with | [_, _, _], _ => rfl
  have F_Lis_row := fun_mk (st := s_Lis_row) l_Lis_row c_Lis_row k_Lis_row
  have b_Lis_row := F_Lis_row.binds (ps := ["_law_kinds_here", "_law_value", "_law_index"]) fun _ _ _ _ _ _ us hl => match us, hl with | [_, _, _], _ => rfl
  have F_Lput := fun_mk (st := s_Lput) l_Lput c_Lput k_Lput
  have b_Lput := F_Lput.binds (ps := ["_law_one_here", "_law_other", "_law_axis"]) fun _ _ _ _ _ _ us hl => match us, hl with | [_, _, _], _ => rfl
  have F_Lplan_error := fun_mk (st := s_Lplan_error) l_Lplan_error c_Lplan_error k_Lplan_error
  have b_Lplan_error := F_Lplan_error.binds (ps := ["_law_kinds_here", "_law_value"]) fun _ _ _ _ _ _ us hl => match us, hl with | [_, _], _ => rfl
  have F_Lplan_boxes := fun_mk (st := s_Lplan_boxes) l_Lplan_boxes c_Lplan_boxes k_Lplan_boxes
  have b_Lplan_boxes := F_Lplan_boxes.binds (ps := ["_law_kinds_here", "_law_plan"]) fun _ _ _ _ _ _ us hl => match us, hl with | [_, _], _ => rfl
  have F_Lcells := fun_mk (st := s_Lcells) l_Lcells c_Lcells k_Lcells
  have b_Lcells := F_Lcells.binds (ps := ["_law_sides_here"]) fun _ _ _ _ _ _ us hl => match us, hl with | [_], _ => rfl
  have F_Lsmaller := fun_mk (st := s_Lsmaller) l_Lsmaller c_Lsmaller k_Lsmaller
  have b_Lsmaller := F_Lsmaller.binds (ps := ["_law_box"]) fun _ _ _ _ _ _ us hl => match us, hl with | [_], _ => rfl
  have F_Lleast := fun_mk (st := s_Lleast) l_Lleast c_Lleast k_Lleast
  have b_Lleast := F_Lleast.binds (ps := ["_law_kinds_here", "_law_box"]) fun _ _ _ _ _ _ us hl => match us, hl with | [_, _], _ => rfl
  have F_Lright := fun_mk (st := s_Lright) l_Lright c_Lright k_Lright
  have b_Lright := F_Lright.binds (ps := ["_law_kinds_here", "_law_box"]) fun _ _ _ _ _ _ us hl => match us, hl with | [_, _], _ => rfl
  have F_law := fun_mk (st := s_law) l_law c_law k_law
  refine ⟨PySem.W.fnOf "law" "law" (defArgs s_law) (defBody s_law) (defScope s_law) .none kV_law dc_law pm_law an_law cd_law ct_law, fun s v => .of_eq rfl, fun base _ _ hT => ?_⟩
  have O_with_side := ok_with_side (P := l.prog) (w := w) (base := base) (mg := mg) F_with_side
  have O_all_boxes := ok_all_boxes (P := l.prog) (w := w) (base := base) (mg := mg) F_all_boxes (PySem.W.mg_none_of X G z_range)
  have O_Ldeck := ok_Ldeck (P := l.prog) (w := w) (base := base) (mg := mg) F_Ldeck (PySem.W.mg_none_of X G z_abs) (PySem.W.mg_none_of X G z_len)
  have O_Ldraw := ok_Ldraw (P := l.prog) (w := w) (base := base) (mg := mg) F_Ldraw (PySem.W.mg_none_of X G z_int) (PySem.W.mg_none_of X G z_len)
  have O_Lvolume := ok_Lvolume (P := l.prog) (w := w) (base := base) (mg := mg) F_Lvolume
  have O_Lwhole := ok_Lwhole (P := l.prog) (w := w) (base := base) (mg := mg) F_Lwhole (PySem.W.mg_none_of X G z_isinstance) (PySem.W.mg_none_of X G z_bool) (PySem.W.mg_none_of X G z_int)
  have O_Lput := ok_Lput (P := l.prog) (w := w) (base := base) (mg := mg) F_Lput (PySem.W.mg_none_of X G z_len) (PySem.W.mg_none_of X G z_range)
  have O_Lcells := ok_Lcells (P := l.prog) (w := w) (base := base) (mg := mg) F_Lcells (PySem.W.mg_none_of X G z_list) (PySem.W.mg_none_of X G z_range)
  have O_Lone := ok_Lone (P := l.prog) (w := w) (base := base) (mg := mg) F_Lone (PySem.W.mg_none_of X G z_len) O_Ldraw (PySem.W.mg_of X G a_Ldraw) k_Ldraw b_Ldraw
  have O_Lsides := ok_Lsides (P := l.prog) (w := w) (base := base) (mg := mg) F_Lsides (PySem.W.mg_none_of X G z_range) (PySem.W.mg_none_of X G z_tuple) O_Ldraw (PySem.W.mg_of X G a_Ldraw) k_Ldraw b_Ldraw
  have O_Lwheel := ok_Lwheel (P := l.prog) (w := w) (base := base) (mg := mg) F_Lwheel (PySem.W.mg_none_of X G z_sorted) (PySem.W.mg_none_of X G z_tuple) O_Ldraw (PySem.W.mg_of X G a_Ldraw) k_Ldraw b_Ldraw
  have O_Lis_row := ok_Lis_row (P := l.prog) (w := w) (base := base) (mg := mg) F_Lis_row (PySem.W.mg_none_of X G z_len) (PySem.W.mg_none_of X G z_isinstance) (PySem.W.mg_none_of X G z_tuple) O_Lwhole (PySem.W.mg_of X G a_Lwhole) k_Lwhole b_Lwhole
  have O_Lplan_boxes := ok_Lplan_boxes (P := l.prog) (w := w) (base := base) (mg := mg) F_Lplan_boxes (PySem.W.mg_none_of X G z_len) O_Lput (PySem.W.mg_of X G a_Lput) k_Lput b_Lput
  have O_Lsmaller := ok_Lsmaller (P := l.prog) (w := w) (base := base) (mg := mg) F_Lsmaller (PySem.W.mg_none_of X G z_tuple) O_Lcells (PySem.W.mg_of X G a_Lcells) k_Lcells b_Lcells
  have O_Lkinds := ok_Lkinds (P := l.prog) (w := w) (base := base) (mg := mg) F_Lkinds (PySem.W.mg_none_of X G z_range) (PySem.W.mg_none_of X G z_tuple) O_Lsides (PySem.W.mg_of X G a_Lsides) k_Lsides b_Lsides
  have O_Lsmall_box := ok_Lsmall_box (P := l.prog) (w := w) (base := base) (mg := mg) F_Lsmall_box (PySem.W.mg_none_of X G z_range) (PySem.W.mg_none_of X G z_list) (PySem.W.mg_none_of X G z_tuple) (PySem.W.mg_none_of X G z_len) O_Lvolume (PySem.W.mg_of X G a_Lvolume) k_Lvolume b_Lvolume O_Ldraw (PySem.W.mg_of X G a_Ldraw) k_Ldraw b_Ldraw O_Lone (PySem.W.mg_of X G a_Lone) k_Lone b_Lone O_Lsides (PySem.W.mg_of X G a_Lsides) k_Lsides b_Lsides
  have O_Lplan_error := ok_Lplan_error (P := l.prog) (w := w) (base := base) (mg := mg) F_Lplan_error (PySem.W.mg_none_of X G z_len) (PySem.W.mg_none_of X G z_range) (PySem.W.mg_none_of X G z_max) (PySem.W.mg_none_of X G z_isinstance) (PySem.W.mg_none_of X G z_tuple) O_Lput (PySem.W.mg_of X G a_Lput) k_Lput b_Lput O_Lis_row (PySem.W.mg_of X G a_Lis_row) k_Lis_row b_Lis_row
  have O_Lleast := ok_Lleast (P := l.prog) (w := w) (base := base) (mg := mg) F_Lleast (PySem.W.mg_none_of X G z_min) (PySem.W.mg_none_of X G z_len) (PySem.W.mg_none_of X G z_range) O_Lsmaller (PySem.W.mg_of X G a_Lsmaller) k_Lsmaller b_Lsmaller
  have O_best_ways := ok_best_ways (P := l.prog) (w := w) (base := base) (mg := mg) F_best_ways (PySem.W.mg_none_of X G z_min) (PySem.W.mg_none_of X G z_enumerate) (PySem.W.mg_none_of X G z_range) O_all_boxes (PySem.W.mg_of X G a_all_boxes) k_all_boxes b_all_boxes O_with_side (PySem.W.mg_of X G a_with_side) k_with_side b_with_side (hT (mc_best_ways, mP_best_ways) (by simp)) tc_best_ways tm_best_ways tu_best_ways
  have O_chopped := ok_chopped (P := l.prog) (w := w) (base := base) (mg := mg) F_chopped O_best_ways (PySem.W.mg_of X G a_best_ways) k_best_ways b_best_ways
  have O_fewest_bricks := ok_fewest_bricks (P := l.prog) (w := w) (base := base) (mg := mg) F_fewest_bricks (PySem.W.mg_none_of X G z_tuple) (PySem.W.mg_none_of X G z_len) O_best_ways (PySem.W.mg_of X G a_best_ways) k_best_ways b_best_ways
  have O_chop := ok_chop (P := l.prog) (w := w) (base := base) (mg := mg) F_chop O_fewest_bricks (PySem.W.mg_of X G a_fewest_bricks) k_fewest_bricks b_fewest_bricks
  have O_Lright := ok_Lright (P := l.prog) (w := w) (base := base) (mg := mg) F_Lright (PySem.W.mg_none_of X G z_repr) O_Lplan_boxes (PySem.W.mg_of X G a_Lplan_boxes) k_Lplan_boxes b_Lplan_boxes O_Lplan_error (PySem.W.mg_of X G a_Lplan_error) k_Lplan_error b_Lplan_error O_chop (PySem.W.mg_of X G a_chop) k_chop b_chop O_chopped (PySem.W.mg_of X G a_chopped) k_chopped b_chopped O_Lleast (PySem.W.mg_of X G a_Lleast) k_Lleast b_Lleast
  have O_law := ok_law (P := l.prog) (w := w) (base := base) (mg := mg) F_law (PySem.W.mg_none_of X G z_repr) (PySem.W.mg_none_of X G z_range) (PySem.W.mg_none_of X G z_tuple) O_chopped (PySem.W.mg_of X G a_chopped) k_chopped b_chopped O_Lright (PySem.W.mg_of X G a_Lright) k_Lright b_Lright O_Lwheel (PySem.W.mg_of X G a_Lwheel) k_Lwheel b_Lwheel O_Lsmall_box (PySem.W.mg_of X G a_Lsmall_box) k_Lsmall_box b_Lsmall_box O_Ldraw (PySem.W.mg_of X G a_Ldraw) k_Ldraw b_Ldraw O_Lone (PySem.W.mg_of X G a_Lone) k_Lone b_Lone O_Lkinds (PySem.W.mg_of X G a_Lkinds) k_Lkinds b_Lkinds O_Ldeck (PySem.W.mg_of X G a_Ldeck) k_Ldeck b_Ldeck
  exact O_law
end K68
open PySem PySem.W PyProof.Rows
set_option maxHeartbeats 0 in
theorem PySem.Challenge.cw_twobricks_k68_boxes_cut_down_holds : PySem.Challenge.rw_twobricks_k68_boxes_cut_down.Holds := by
  w_on; o_law; k_head; (case hw => w_witness2)
  k_fill
  letI : DL.Tb := ⟨[(28, (PyProof.Rows.envOfC "best_ways" (L2.defScope K68.s_best_ways) 0 0 .none).qual ++ "<lambda>")]⟩
  refine DL.walkT (l := PySem.Challenge.rw_twobricks_k68_boxes_cut_down) (n := 63) (k := 8) (x := "_law_script") (sp := fun K => DL.liftSp K DL.spLaw) (cs := [(30, 28)]) (xs := ["best_ways"]) rfl (by decide) rfl ⟨rfl, by decide, by decide⟩ (fun w h Y => PySem.W.km_in_of Y) (fun w => ?T) ?R (fun w => ?O) ?F (fun _ _ a ns hl hT hS => DL.law_start hS (DL.tabs_of fun p hp => ?E))
  case T => first | rfl | kernel_rfl
  case R => intro y hy; (rcases List.mem_cons.mp hy with rfl | hy; exact DL.some_of (by first | rfl | kernel_rfl)); exact absurd hy List.not_mem_nil
  case O => intro p hp; (rcases List.mem_cons.mp hp with rfl | hp; first | rfl | kernel_rfl); exact absurd hp List.not_mem_nil
  case E => (rcases List.mem_cons.mp hp with rfl | hp; exact hT (30, 28) (by simp)); exact absurd hp List.not_mem_nil
  case F =>
    intro w mg fa h KX G hmg
    refine' K68.all_mk KX G hmg ?a_with_side ?l_with_side ?c_with_side ?k_with_side ?a_all_boxes ?l_all_boxes ?c_all_boxes ?k_all_boxes ?a_best_ways ?l_best_ways ?c_best_ways ?k_best_ways ?a_chopped ?l_chopped ?c_chopped ?k_chopped ?a_Ldeck ?l_Ldeck ?c_Ldeck ?k_Ldeck ?a_Ldraw ?l_Ldraw ?c_Ldraw ?k_Ldraw ?a_Lone ?l_Lone ?c_Lone ?k_Lone ?a_Lsides ?l_Lsides ?c_Lsides ?k_Lsides ?a_Lkinds ?l_Lkinds ?c_Lkinds ?k_Lkinds ?a_Lwheel ?l_Lwheel ?c_Lwheel ?k_Lwheel ?a_Lvolume ?l_Lvolume ?c_Lvolume ?k_Lvolume ?a_Lsmall_box ?l_Lsmall_box ?c_Lsmall_box ?k_Lsmall_box ?a_fewest_bricks ?l_fewest_bricks ?c_fewest_bricks ?k_fewest_bricks ?a_chop ?l_chop ?c_chop ?k_chop ?a_Lwhole ?l_Lwhole ?c_Lwhole ?k_Lwhole ?a_Lis_row ?l_Lis_row ?c_Lis_row ?k_Lis_row ?a_Lput ?l_Lput ?c_Lput ?k_Lput ?a_Lplan_error ?l_Lplan_error ?c_Lplan_error ?k_Lplan_error ?a_Lplan_boxes ?l_Lplan_boxes ?c_Lplan_boxes ?k_Lplan_boxes ?a_Lcells ?l_Lcells ?c_Lcells ?k_Lcells ?a_Lsmaller ?l_Lsmaller ?c_Lsmaller ?k_Lsmaller ?a_Lleast ?l_Lleast ?c_Lleast ?k_Lleast ?a_Lright ?l_Lright ?c_Lright ?k_Lright ?a_law ?l_law ?c_law ?k_law ?z_range ?z_min ?z_enumerate ?z_abs ?z_len ?z_int ?z_tuple ?z_sorted ?z_list ?z_isinstance ?z_bool ?z_max ?z_repr ?tc_best_ways ?tm_best_ways ?tu_best_ways
    (case a_with_side => k_is); (case l_with_side => k_is); (case c_with_side => k_is); (case k_with_side => k_is); (case a_all_boxes => k_is); (case l_all_boxes => k_is); (case c_all_boxes => k_is); (case k_all_boxes => k_is); (case a_best_ways => k_is); (case l_best_ways => k_is); (case c_best_ways => k_is); (case k_best_ways => k_is); (case a_chopped => k_is); (case l_chopped => k_is); (case c_chopped => k_is); (case k_chopped => k_is); (case a_Ldeck => k_is); (case l_Ldeck => k_is); (case c_Ldeck => k_is); (case k_Ldeck => k_is); (case a_Ldraw => k_is); (case l_Ldraw => k_is); (case c_Ldraw => k_is); (case k_Ldraw => k_is); (case a_Lone => k_is); (case l_Lone => k_is); (case c_Lone => k_is); (case k_Lone => k_is); (case a_Lsides => k_is); (case l_Lsides => k_is); (case c_Lsides => k_is); (case k_Lsides => k_is); (case a_Lkinds => k_is); (case l_Lkinds => k_is); (case c_Lkinds => k_is); (case k_Lkinds => k_is); (case a_Lwheel => k_is); (case l_Lwheel => k_is); (case c_Lwheel => k_is); (case k_Lwheel => k_is); (case a_Lvolume => k_is); (case l_Lvolume => k_is); (case c_Lvolume => k_is); (case k_Lvolume => k_is); (case a_Lsmall_box => k_is); (case l_Lsmall_box => k_is); (case c_Lsmall_box => k_is); (case k_Lsmall_box => k_is); (case a_fewest_bricks => k_is); (case l_fewest_bricks => k_is); (case c_fewest_bricks => k_is); (case k_fewest_bricks => k_is); (case a_chop => k_is); (case l_chop => k_is); (case c_chop => k_is); (case k_chop => k_is); (case a_Lwhole => k_is); (case l_Lwhole => k_is); (case c_Lwhole => k_is); (case k_Lwhole => k_is); (case a_Lis_row => k_is); (case l_Lis_row => k_is); (case c_Lis_row => k_is); (case k_Lis_row => k_is); (case a_Lput => k_is); (case l_Lput => k_is); (case c_Lput => k_is); (case k_Lput => k_is); (case a_Lplan_error => k_is); (case l_Lplan_error => k_is); (case c_Lplan_error => k_is); (case k_Lplan_error => k_is); (case a_Lplan_boxes => k_is); (case l_Lplan_boxes => k_is); (case c_Lplan_boxes => k_is); (case k_Lplan_boxes => k_is); (case a_Lcells => k_is); (case l_Lcells => k_is); (case c_Lcells => k_is); (case k_Lcells => k_is); (case a_Lsmaller => k_is); (case l_Lsmaller => k_is); (case c_Lsmaller => k_is); (case k_Lsmaller => k_is); (case a_Lleast => k_is); (case l_Lleast => k_is); (case c_Lleast => k_is); (case k_Lleast => k_is); (case a_Lright => k_is); (case l_Lright => k_is); (case c_Lright => k_is); (case k_Lright => k_is); (case a_law => k_is); (case l_law => k_is); (case c_law => k_is); (case k_law => k_is); (case z_range => k_is); (case z_min => k_is); (case z_enumerate => k_is); (case z_abs => k_is); (case z_len => k_is); (case z_int => k_is); (case z_tuple => k_is); (case z_sorted => k_is); (case z_list => k_is); (case z_isinstance => k_is); (case z_bool => k_is); (case z_max => k_is); (case z_repr => k_is); (case tc_best_ways => rfl); (case tm_best_ways => exact DL.tm_of (by decide +kernel)); (case tu_best_ways => exact DL.tu_of (by decide +kernel))

