import PyProof.Rows.All
import Wide.All
import OpenK.AllK
import Wide.FinOn
import HandS.ForSpec
import HandS.ForMost
import HandS.IsInst
import HandS.Deep
import HandS.Wide
import HandS.TupAny
import HandS.Zip
import HandS.Style
import HandS.Words
import HandS.Lambda
import HandS.RaiseMore
import HandS.SortInts
import HandS.Walk
import KE.GoesMore
import KE.GoesEnum
import HandS.TupMul
import PyProof.ReprRoads
import PyProof.Rows.IntBool
import KE.SortData
import KE.DataMinMax
import HandS.Conv
import PyProof.Rows.MatchSeqLen
import PyProof.RulesMatchSeq
import HandS.Dict
import KE.LtData
import KE.KExcSuper
import HandS.ExcInit
import HandS.ExcField
import HandS.ExcIs
import HandS.ExcOwn
import HandS.Small
import HandS.TryMany
import HandS.Nested
import HandS.WordsExc
import HandS.ExcCtx
import KE.KIsAll
import KE.KTryMore
import KE.DataCmp
import PyProof.FactsAll.dict
import PyProof.NeData
import HandS.TryOnly
import PyProof.StrOps2
import HandS.Star
import PyProof.AssignAttr
import HandS.EndTab
import HandS.HeadEnd
import HandS.HeadHook4
import HandS.HeadNt
import HandS.Head2
import HandS.SetKeys
import HandS.TupLen
import HandS.SetFor
import HandS.Strs
import KE.KDictPairs
import KE.KDictSum
import KE.KDictCopyH
import PyProof.TupleOfSeq
import KE.KTupSum
import OpenK.KMeth
import OpenK.KOps
import KE.KOpsOwn
import KE.KCallOwn
import KE.KFmtOwn
import HandS.Property
import HandS.FStr
import PyProof.Rows.Range3
import HandS.Flt
import HandS.GenList
import PyProof.GenRules
import PyProof.GenComp
import HandS.Defaults
import HandS.ClsMeth
import PyProof.SliceStr2
import PyProof.StrLawsRepr
import KE.KIntText
import KE.IntTextText
import PySem.Challenge.RW_twobricks_k76_bricks_read
set_option Elab.async false
set_option linter.all false
set_option maxRecDepth 100000
set_option maxHeartbeats 4000000
namespace DL
open PySem PySem.Spec PyProof.Rows L2

class Tb where
  T : List (Addr × Str)
instance (priority := low) tb0 : Tb := ⟨[]⟩
def markI : Int := 2 ^ 2000
abbrev objD (n : Str) (fs : List (Str × PyData)) : PyData := .dict ((.int markI, .str n) :: fs.map fun p => (.str p.1, p.2))
structure ObjK (K : PySem.W.Frag) (n : Str) (C : Addr) : Prop where
  at_ : PySem.W.nsIn K mainGlobals n = some (some (.ref C))
  ty : ∀ T ∈ ["int", "bool", "str", "tuple", "list", "dict"], PySem.W.kitOne K (.ref C) (.type T) = some false
  cl : Cls K C
  ha : PySem.W.findIn K (.ref C) "__class__" = some (some (.builtin "object.__class__"))
  hn : PySem.W.specialIn K (.builtin "object.__class__") "__get__" = some (some (.builtin "getset_descriptor.__get__"))
  tk : PySem.W.takesIn K (.builtin "object.__class__") = some true
  mr : PySem.W.mroIn K C (.type "object") = some true
def keyI (k : List Int) : List Key := k.map fun i => (Sum.inl i : Key)
abbrev dKD (kvs : List (Int × PyData)) : PyData := .dict ((.int markI, .bool false) :: kvs.map fun p => (.int p.1, p.2))
abbrev dTD (kvs : List (List Int × PyData)) : PyData := .dict ((.int markI, .bool true) :: kvs.map fun p => (.tuple (p.1.map PyData.int), p.2))
def numsV (xs : List V) : Bool := !xs.isEmpty && xs.all fun v => match v with | .int _ => true | _ => false
def tupH (o : Obj) (xs : List V) : HO := if numsV xs = true then .tup xs else .frz o (.tup xs)
def TupAt (G : Hp) (a : Addr) (xs : List V) : Prop := ∃ o : Obj, o.dict = none ∧ G a = some (tupH o xs)
theorem TupAt.mono {G H : Hp} {a : Addr} {xs : List V} (s : Same G H) (h : TupAt G a xs) : TupAt H a xs := by
  obtain ⟨o, d, e⟩ := h
  exact ⟨o, d, s _ _ e⟩
theorem TupAt.sq {K : PySem.W.Frag} {G : Hp} {a : Addr} {xs : List V} (h : TupAt G a xs) : SqT K G a xs := by
  obtain ⟨o, _, e⟩ := h
  unfold tupH at e
  split at e
  · exact SqT.of e
  · exact .inl (.inr ⟨o, e⟩)
theorem TupAt.key {G : Hp} {a : Addr} {xs : List V} (h : TupAt G a xs) (n : numsV xs = true) : G a = some (.tup xs) := by
  obtain ⟨o, _, e⟩ := h
  rwa [tupH, if_pos n] at e
theorem TupAt.obj {G : Hp} {a : Addr} {xs : List V} (h : TupAt G a xs) (n : numsV xs = false) : ∃ o : Obj, o.dict = none ∧ G a = some (.frz o (.tup xs)) := by
  obtain ⟨o, d, e⟩ := h
  rw [tupH, if_neg (by rw [n]; exact Bool.false_ne_true)] at e
  exact ⟨o, d, e⟩
theorem TupAt.two {G : Hp} {a : Addr} {xs : List V} (h : TupAt G a xs) : G a = some (.tup xs) ∨ ∃ o : Obj, o.dict = none ∧ G a = some (.frz o (.tup xs)) := by
  cases n : numsV xs with
  | true => exact .inl (h.key n)
  | false => exact .inr (h.obj n)
theorem tupH_tbl {o : Obj} {xs : List V} : ∀ ps, tupH o xs ≠ .tbl ps := fun ps => by
  unfold tupH
  split <;> exact fun z => (nomatch z)
theorem tupH_ok {P : Program} {w : World} {H : Hp} {h : Heap} {a : Addr} {o : Obj} {n : Nat} {xs : List V} {us : List Value} (e : h.get? a = some o) (c : o.cls = .type "tuple") (d : o.data = .seq us.toArray n) (z : xs.length ≤ sizeLine) (r : Vals xs us) : ObjOk P w H h a (tupH o xs) := by
  unfold tupH
  split
  · exact ⟨z, us, r, o, e, c, n, d⟩
  · exact ⟨e, z, us, r, o, e, c, n, d⟩
abbrev tupO (us : List Value) : Obj := { cls := .type "tuple", data := .seq us.toArray }
mutual
inductive Dn (K : PySem.W.Frag) (G : Hp) : V → PyData → Prop
  | non : Dn K G .non .none
  | bl (b : Bool) : Dn K G (.bl b) (.bool b)
  | int (i : Int) : Dn K G (.int i) (.int i)
  | str (x : Str) : Dn K G (.str x) (.str x)
  | lst {a : Addr} {xs : List V} {ds : List PyData} (h : G a = some (.lst xs)) (t : DnL K G xs ds) : Dn K G (.ref a) (.list ds)
  | tup {a : Addr} {xs : List V} {ds : List PyData} (h : TupAt G a xs) (t : DnL K G xs ds) : Dn K G (.ref a) (.tuple ds)
  | dic {a : Addr} (h : G a = some (.dK [])) (n : a ≠ sysModules) : Dn K G (.ref a) (.dict [])
  | ob {a C dx : Addr} {n : Str} {ws : List (Str × V)} {fs : List (Str × PyData)} (h : G a = some (.ins C dx ws)) (k : ObjK K n C) (e : ws.map (·.1) = fs.map (·.1)) (t : DnL K G (ws.map (·.2)) (fs.map (·.2))) : Dn K G (.ref a) (.dict ((.int markI, .str n) :: fs.map fun p => (.str p.1, p.2)))
  | fK {a : Addr} {o : Obj} {ws : List (Key × V)} {kvs : List (Int × PyData)} (h : G a = some (.frz o (.dK ws))) (e : ws.map (·.1) = kvs.map fun p => (Sum.inl p.1 : Key)) (t : DnL K G (ws.map (·.2)) (kvs.map (·.2))) : Dn K G (.ref a) (.dict ((.int markI, .bool false) :: kvs.map fun p => (.int p.1, p.2)))
  | fT {a : Addr} {o : Obj} {ws : List (List Key × V)} {kvs : List (List Int × PyData)} (h : G a = some (.frz o (.dT ws))) (e : ws.map (·.1) = kvs.map fun p => keyI p.1) (t : DnL K G (ws.map (·.2)) (kvs.map (·.2))) : Dn K G (.ref a) (.dict ((.int markI, .bool true) :: kvs.map fun p => (.tuple (p.1.map PyData.int), p.2)))
inductive DnL (K : PySem.W.Frag) (G : Hp) : List V → List PyData → Prop
  | nil : DnL K G [] []
  | cons {v : V} {vs : List V} {d : PyData} {ds : List PyData} (h : Dn K G v d) (t : DnL K G vs ds) : DnL K G (v :: vs) (d :: ds)
end
theorem sqT_mono {K : PySem.W.Frag} {G H : Hp} {a : Addr} {xs : List V} (s : Same G H) (h : SqT K G a xs) : SqT K H a xs := by
  rcases h with (h | ⟨o, h⟩) | h
  · exact .inl (.inl (s _ _ h))
  · exact .inl (.inr ⟨o, s _ _ h⟩)
  · exact .inr h
mutual
theorem Dn.mono' {K : PySem.W.Frag} {G H : Hp} (s : Same G H) : ∀ {v : V} {d : PyData}, Dn K G v d → Dn K H v d
  | _, _, .non => .non
  | _, _, .bl b => .bl b
  | _, _, .int i => .int i
  | _, _, .str x => .str x
  | _, _, .lst h t => .lst (s _ _ h) (DnL.mono' s t)
  | _, _, .tup h t => .tup (h.mono s) (DnL.mono' s t)
  | _, _, .dic h n => .dic (s _ _ h) n
  | _, _, .ob h k e t => .ob (s _ _ h) k e (DnL.mono' s t)
  | _, _, .fK h e t => .fK (s _ _ h) e (DnL.mono' s t)
  | _, _, .fT h e t => .fT (s _ _ h) e (DnL.mono' s t)
theorem DnL.mono' {K : PySem.W.Frag} {G H : Hp} (s : Same G H) : ∀ {vs : List V} {ds : List PyData}, DnL K G vs ds → DnL K H vs ds
  | _, _, .nil => .nil
  | _, _, .cons a b => .cons (Dn.mono' s a) (DnL.mono' s b)
end
theorem Dn.mono {K : PySem.W.Frag} {G H : Hp} (s : Same G H) {v : V} (d : PyData) (h : Dn K G v d) : Dn K H v d := Dn.mono' s h
theorem DnL.mono {K : PySem.W.Frag} {G H : Hp} (s : Same G H) {vs : List V} (ds : List PyData) (h : DnL K G vs ds) : DnL K H vs ds := DnL.mono' s h
section
variable {K : PySem.W.Frag} {G : Hp}
theorem DnL.len : ∀ {vs : List V} {ds : List PyData}, DnL K G vs ds → vs.length = ds.length
  | _, [], h => by cases h; rfl
  | _, d :: ds, h => by cases h with | cons a b => simp [DnL.len b]
theorem DnL.get : ∀ {vs : List V} {ds : List PyData} {i : Nat} {d : PyData}, DnL K G vs ds → ds[i]? = some d → ∃ v, vs[i]? = some v ∧ Dn K G v d
  | _, [], _, _, h, e => by simp at e
  | _, d :: ds, 0, _, h, e => by
    cases h with
    | cons a b => simp at e; subst e; exact ⟨_, rfl, a⟩
  | _, d :: ds, i + 1, x, h, e => by
    cases h with
    | cons a b =>
      obtain ⟨v, h1, h2⟩ := DnL.get (i := i) b (by simpa using e)
      exact ⟨v, by simpa using h1, h2⟩
theorem DnL.app : ∀ {vs ws : List V} {ds es : List PyData}, DnL K G vs ds → DnL K G ws es → DnL K G (vs ++ ws) (ds ++ es)
  | _, _, [], _, h, h2 => by cases h; exact h2
  | _, _, d :: ds, _, h, h2 => by cases h with | cons a b => exact .cons a (DnL.app b h2)
theorem DnL.take : ∀ {vs : List V} {ds : List PyData} (n : Nat), DnL K G vs ds → DnL K G (vs.take n) (ds.take n)
  | _, _, 0, _ => by simp; exact .nil
  | _, [], n + 1, h => by cases h; simp; exact .nil
  | _, d :: ds, n + 1, h => by cases h with | cons a b => exact .cons a (DnL.take n b)
theorem DnL.drop : ∀ {vs : List V} {ds : List PyData} (n : Nat), DnL K G vs ds → DnL K G (vs.drop n) (ds.drop n)
  | _, _, 0, h => by simpa using h
  | _, [], n + 1, h => by cases h; simp; exact .nil
  | _, d :: ds, n + 1, h => by cases h with | cons a b => exact DnL.drop n b
theorem DnL.set {v : V} {d : PyData} (h : Dn K G v d) : ∀ {vs : List V} {ds : List PyData} (i : Nat), DnL K G vs ds → DnL K G (vs.set i v) (ds.set i d)
  | _, [], _, t => by cases t; exact .nil
  | _, _ :: _, 0, t => by cases t with | cons a b => exact .cons h b
  | _, _ :: _, i + 1, t => by cases t with | cons a b => exact .cons a (DnL.set h i b)
theorem DnL.dropLast {vs : List V} {ds : List PyData} (h : DnL K G vs ds) : DnL K G vs.dropLast ds.dropLast := by
  rw [List.dropLast_eq_take, List.dropLast_eq_take, h.len]
  exact h.take _
theorem DnL.erase : ∀ {vs : List V} {ds : List PyData} (i : Nat), DnL K G vs ds → DnL K G (vs.eraseIdx i) (ds.eraseIdx i)
  | _, [], _, t => by cases t; exact .nil
  | _, _ :: _, 0, t => by cases t with | cons a b => exact b
  | _, _ :: _, i + 1, t => by cases t with | cons a b => exact .cons a (DnL.erase i b)
theorem DnL.ints : ∀ (ns : List Int), DnL K G (ns.map V.int) (ns.map PyData.int)
  | [] => .nil
  | n :: ns => .cons (.int n) (DnL.ints ns)
theorem DnL.toInts : ∀ {vs : List V} {ns : List Int}, DnL K G vs (ns.map PyData.int) → vs = ns.map V.int
  | _, [], h => by cases h; rfl
  | _, n :: ns, h => by
    cases h with
    | cons a b => cases a; rw [DnL.toInts b]; rfl
theorem DnL.toStrs : ∀ {vs : List V} {ns : List Str}, DnL K G vs (ns.map PyData.str) → vs = ns.map V.str
  | _, [], h => by cases h; rfl
  | _, n :: ns, h => by
    cases h with
    | cons a b => cases a; rw [DnL.toStrs b]; rfl
end

inductive GX where
  | oi (a : Addr) (kvs : List (Int × PyData))
  | og (a : Addr) (gs : List (Int × Addr × List PyData))
  | bu (a l : Addr) (n f : Str) (xs : List PyData)
  | b0 (a : Addr) (n : Str)
  | nm (a : Addr) (x : Str)
def GX.fp : GX → List Addr
  | .oi a _ => [a]
  | .og a gs => a :: gs.map (·.2.1)
  | .bu a l _ _ _ => [a, l]
  | .b0 a _ => [a]
  | .nm _ _ => []
def GX.hd : GX → Addr
  | .oi a _ => a
  | .og a _ => a
  | .bu a _ _ _ _ => a
  | .b0 a _ => a
  | .nm a _ => a
def GX.Ok (K : PySem.W.Frag) (G H : Hp) : GX → Prop
  | .oi a kvs => ∃ ws, H a = some (.dK ws) ∧ ws.map (·.1) = kvs.map (fun p => (Sum.inl p.1 : Key)) ∧ DnL K G (ws.map (·.2)) (kvs.map (·.2))
  | .og a gs => (a :: gs.map (·.2.1)).Nodup ∧ H a = some (.dK (gs.map fun g => ((Sum.inl g.1 : Key), V.ref g.2.1))) ∧ ∀ g ∈ gs, ∃ vs, H g.2.1 = some (.lst vs) ∧ DnL K G vs g.2.2
  | .bu a l n f xs => a ≠ l ∧ ∃ C dx vs, H a = some (.ins C dx [(f, .ref l)]) ∧ ObjK K n C ∧ H l = some (.lst vs) ∧ DnL K G vs xs
  | .b0 a n => ∃ C dx, H a = some (.ins C dx []) ∧ ObjK K n C
  | .nm a x => x = "" ∨ PySem.W.nsIn K mainGlobals x = some (some (.ref a))
inductive Cell where
  | em
  | d (x : PyData)
  | ol (a : Addr) (xs : List PyData)
  | dk (a b c : Addr)
  | scr (a : Addr) (ns : List Int)
  | dx (a b c : Addr) (xs : List Int) (n : Int) (ys : List Int)
  | od (a : Addr) (kvs : List (List Int × PyData))
  | xc (a : Addr) (cls : Value) (d : Option Addr) (x : PyData)
  | ob (a : Addr) (n : Str) (fs : List (Str × PyData))
  | fv (a : Addr) (m : Hp)
  | gx (t : GX)
def Cell.fp : Cell → List Addr
  | .ol a _ => [a]
  | .dk a b c => [a, b, c]
  | .dx a b c _ _ _ => [a, b, c]
  | .od a _ => [a]
  | .ob a _ _ => [a]
  | .gx t => t.fp
  | _ => []
def DnK (K : PySem.W.Frag) (G : Hp) (ws : List (List Key × V)) (kvs : List (List Int × PyData)) : Prop := ws.map (·.1) = kvs.map (fun p => keyI p.1) ∧ DnL K G (ws.map (·.2)) (kvs.map (·.2))
def DeckOk (H : Hp) (a b c : Addr) : Prop := a ≠ b ∧ a ≠ c ∧ b ≠ c ∧ ∃ (n : Int) (xs ys : List Int), H a = some (.lst [.ref b, .ref c, .int n]) ∧ H b = some (.lst (xs.map V.int)) ∧ H c = some (.lst (ys.map V.int)) ∧ ys ≠ [] ∧ ∀ x ∈ xs, 0 ≤ x
def excD (n : Str) (fs : List (Str × PyData)) : PyData := .dict [(.str n, .dict (fs.map fun p => (.str p.1, p.2)))]
def ExcAt (K : PySem.W.Frag) (G : Hp) (cls : Value) (d : Option Addr) (x : PyData) : Prop := ∃ (n : Str) (C : Addr) (fs : List (Str × PyData)), x = excD n fs ∧ cls = .ref C ∧ (PySem.W.clsIn K C).map (·.name) = some n ∧
  ((∃ (dd : Addr) (ws : List (Str × V)), d = some dd ∧ G dd = some (.xd ws) ∧ ws.map (·.1) = fs.map (·.1) ∧ DnL K G (ws.map (·.2)) (fs.map (·.2))) ∨ (fs = [] ∧ d = none))
theorem ExcAt.mono {K : PySem.W.Frag} {G G' : Hp} {cls : Value} {d : Option Addr} {x : PyData} (s : Same G G') (h : ExcAt K G cls d x) : ExcAt K G' cls d x := by
  obtain ⟨n, C, fs, h1, h2, h3, h4⟩ := h
  refine ⟨n, C, fs, h1, h2, h3, ?_⟩
  rcases h4 with ⟨dd, ws, q1, q2, q3, q4⟩ | q
  · exact .inl ⟨dd, ws, q1, s _ _ q2, q3, q4.mono s⟩
  · exact .inr q
def CellOk (K : PySem.W.Frag) (G H : Hp) : Cell → Option V → Prop
  | .em, _ => True
  | .d x, o => ∃ v, o = some v ∧ Dn K G v x
  | .ol a xs, o => o = some (.ref a) ∧ ∃ vs, H a = some (.lst vs) ∧ DnL K G vs xs
  | .dk a b c, o => o = some (.ref a) ∧ DeckOk H a b c
  | .scr a ns, o => o = some (.ref a) ∧ SqL K G a (ns.map V.int)
  | .od a kvs, o => o = some (.ref a) ∧ ∃ ws, H a = some (.dT ws) ∧ DnK K G ws kvs
  | .xc a cls d x, o => o = some (.ref a) ∧ ExcAt K G cls d x
  | .ob a n fs, o => o = some (.ref a) ∧ ∃ C dx ws, H a = some (.ins C dx ws) ∧ ObjK K n C ∧ ws.map (·.1) = fs.map (·.1) ∧ DnL K G (ws.map (·.2)) (fs.map (·.2))
  | .fv a m, o => o = some (.ref a) ∧ Same m G
  | .gx t, o => o = some (.ref t.hd) ∧ t.Ok K G H
  | .dx a b c xs n ys, o => o = some (.ref a) ∧ a ≠ b ∧ a ≠ c ∧ b ≠ c ∧ H a = some (.lst [.ref b, .ref c, .int n]) ∧ H b = some (.lst (xs.map V.int)) ∧ H c = some (.lst (ys.map V.int))

abbrev DS := List Cell
def notTE (x : HO) : Prop := (∀ ps, x ≠ .tbl ps) ∧ (∀ f, x ≠ .ext f) ∧ ∀ xs, x ≠ .tup xs
theorem notTE_lst {xs : List V} : notTE (.lst xs) := ⟨fun _ z => (nomatch z), fun _ z => (nomatch z), fun _ z => (nomatch z)⟩
theorem tabs_upd {T : List (Addr × Str)} {H : Hp} {p : Addr} {o : HO} (h : LamX.Tabs T H) (hp : ∀ x, H p = some x → notTE x) : LamX.Tabs T (upd H p o) := fun q hq => by
  obtain ⟨ps, h1, h2, h3⟩ := h q hq
  refine ⟨ps, ?_, h2, fun pos cv hc => ?_⟩
  · rw [upd_ne (fun z => (hp _ (by rw [← z]; exact h1)).1 ps rfl)]; exact h1
  · obtain ⟨c, e1, e2⟩ := h3 pos cv hc
    exact ⟨c, e1, by rw [upd_ne (fun z => (hp _ (by rw [← z]; exact e2)).2.1 _ rfl)]; exact e2⟩
theorem tabs_new {T : List (Addr × Str)} {H : Hp} {p : Addr} {o : HO} (h : LamX.Tabs T H) (hp : H p = none) : LamX.Tabs T (upd H p o) := tabs_upd h fun x e => by rw [hp] at e; cases e
structure NT (B G : Hp) : Prop where
  b : ∀ a o, B a = some o → notTE o
  g : ∀ a o, G a = some o → ∀ ps, o ≠ .tbl ps
variable [Tb]
structure TbOk (B G H : Hp) : Prop where
  t : LamX.Tabs Tb.T H
  n : NT B G
structure Rel (K : PySem.W.Frag) (B G : Hp) (δ : DS) (σ : L2.St) (H : Hp) : Prop where
  len : σ.length = δ.length
  sg : Same G H
  sb : Same B H
  dj : ∀ a, G a = none ∨ B a = none
  ok : ∀ (i : Nat) (c : Cell) (o : Option V), δ[i]? = some c → σ[i]? = some o → CellOk K G H c o
  ap : ∀ (i j : Nat) (c c' : Cell) (a : Addr), δ[i]? = some c → δ[j]? = some c' → a ∈ c.fp → a ∈ c'.fp → i = j
  fr : ∀ (i : Nat) (c : Cell) (a : Addr), δ[i]? = some c → a ∈ c.fp → G a = none ∧ B a = none
  tt : TbOk B G H

omit [Tb] in
theorem NT.updG {B G : Hp} {p : Addr} {o : HO} (n : NT B G) (h : ∀ ps, o ≠ .tbl ps) : NT B (upd G p o) := ⟨n.b, fun a x e => by
  by_cases q : a = p
  · subst q; rw [upd_same] at e; cases e; exact h
  · rw [upd_ne q] at e; exact n.g a x e⟩
omit [Tb] in
theorem NT.updB {B G : Hp} {p : Addr} {o : HO} (n : NT B G) (h : notTE o) : NT (upd B p o) G := ⟨fun a x e => by
  by_cases q : a = p
  · subst q; rw [upd_same] at e; cases e; exact h
  · rw [upd_ne q] at e; exact n.b a x e, n.g⟩
omit [Tb] in
theorem NT.lessB {B B0 G : Hp} (n : NT B G) (h : ∀ a o, B0 a = some o → B a = some o) : NT B0 G := ⟨fun a x e => n.b a x (h a x e), n.g⟩
section
variable {K : PySem.W.Frag} {B G G' H H' : Hp} {δ : DS} {σ : L2.St} {p a : Addr} {o : HO} {i : Nat} {c : Cell}
theorem same_new (h : H p = none) : Same H (upd H p o) := fun b x e => by
  rw [upd_ne (ne_of_none e h)]; exact e
theorem Rel.at (R : Rel K B G δ σ H) (h : δ[i]? = some c) : ∃ o, σ[i]? = some o ∧ CellOk K G H c o := by
  have hi : i < δ.length := (List.getElem?_eq_some_iff.mp h).1
  have hs : i < σ.length := by rw [R.len]; exact hi
  exact ⟨σ[i], List.getElem?_eq_getElem hs, R.ok i c _ h (List.getElem?_eq_getElem hs)⟩
theorem GX.tr {t : GX} (ok : t.Ok K G H) (hp : p ∈ t.fp) : ∃ o, H p = some o ∧ (∀ ps, o ≠ .tbl ps) ∧ (∀ f, o ≠ .ext f) ∧ ∀ xs, o ≠ .tup xs := by
  cases t with
  | oi a kvs =>
    obtain ⟨ws, e, _⟩ := ok
    rw [List.mem_singleton.mp hp]
    exact ⟨_, e, fun _ z => (nomatch z), fun _ z => (nomatch z), fun _ z => (nomatch z)⟩
  | og a gs =>
    obtain ⟨_, e, h⟩ := ok
    rcases List.mem_cons.mp hp with rfl | hp
    · exact ⟨_, e, fun _ z => (nomatch z), fun _ z => (nomatch z), fun _ z => (nomatch z)⟩
    · obtain ⟨g, hg, rfl⟩ := List.mem_map.mp hp
      obtain ⟨vs, e2, _⟩ := h g hg
      exact ⟨_, e2, fun _ z => (nomatch z), fun _ z => (nomatch z), fun _ z => (nomatch z)⟩
  | bu a l n f xs =>
    obtain ⟨_, C, dx, vs, e, _, e2, _⟩ := ok
    rcases List.mem_cons.mp hp with rfl | hp
    · exact ⟨_, e, fun _ z => (nomatch z), fun _ z => (nomatch z), fun _ z => (nomatch z)⟩
    · rw [List.mem_singleton.mp hp]
      exact ⟨_, e2, fun _ z => (nomatch z), fun _ z => (nomatch z), fun _ z => (nomatch z)⟩
  | b0 a n =>
    obtain ⟨C, dx, e, _⟩ := ok
    rw [List.mem_singleton.mp hp]
    exact ⟨_, e, fun _ z => (nomatch z), fun _ z => (nomatch z), fun _ z => (nomatch z)⟩
  | nm a x => cases hp
theorem GX.stay {t : GX} (ok : t.Ok K G H) (sg : Same G G') (hk : ∀ b ∈ t.fp, H' b = H b) : t.Ok K G' H' := by
  cases t with
  | oi a kvs =>
    obtain ⟨ws, e, k, d⟩ := ok
    exact ⟨ws, by rw [hk a (by simp [GX.fp])]; exact e, k, d.mono sg⟩
  | og a gs =>
    obtain ⟨n, e, h⟩ := ok
    refine ⟨n, by rw [hk a (by simp [GX.fp])]; exact e, fun g hg => ?_⟩
    obtain ⟨vs, e2, d⟩ := h g hg
    exact ⟨vs, by rw [hk _ (List.mem_cons_of_mem _ (List.mem_map.mpr ⟨g, hg, rfl⟩))]; exact e2, d.mono sg⟩
  | bu a l n f xs =>
    obtain ⟨n1, C, dx, vs, e, k, e2, d⟩ := ok
    exact ⟨n1, C, dx, vs, by rw [hk a (by simp [GX.fp])]; exact e, k, by rw [hk l (by simp [GX.fp])]; exact e2, d.mono sg⟩
  | b0 a n =>
    obtain ⟨C, dx, e, k⟩ := ok
    exact ⟨C, dx, by rw [hk a (by simp [GX.fp])]; exact e, k⟩
  | nm a x => exact ok
theorem cell_tracked (ok : CellOk K G H c (some (.ref a))) (hc : p ∈ c.fp) : ∃ o, H p = some o := by
  cases c with
  | em => cases hc
  | d x => cases hc
  | ol a xs =>
    obtain ⟨_, vs, e, _⟩ := ok
    rw [List.mem_singleton.mp hc]; exact ⟨_, e⟩
  | dk a b c =>
    obtain ⟨_, _, _, _, n, xs, ys, e1, e2, e3, _⟩ := ok
    simp only [Cell.fp, List.mem_cons, List.not_mem_nil, or_false] at hc
    rcases hc with rfl | rfl | rfl
    · exact ⟨_, e1⟩
    · exact ⟨_, e2⟩
    · exact ⟨_, e3⟩
  | scr a ns => cases hc
  | xc a cls d x => cases hc
  | fv a m => cases hc
  | gx t => obtain ⟨o, e, _⟩ := GX.tr ok.2 hc; exact ⟨o, e⟩
  | ob a n fs =>
    obtain ⟨_, C, dx, ws, e, _⟩ := ok
    rw [List.mem_singleton.mp hc]; exact ⟨_, e⟩
  | od a kvs =>
    obtain ⟨_, ws, e, _⟩ := ok
    rw [List.mem_singleton.mp hc]; exact ⟨_, e⟩
  | dx a b c xs n ys =>
    obtain ⟨_, _, _, _, e1, e2, e3⟩ := ok
    simp only [Cell.fp, List.mem_cons, List.not_mem_nil, or_false] at hc
    rcases hc with rfl | rfl | rfl
    · exact ⟨_, e1⟩
    · exact ⟨_, e2⟩
    · exact ⟨_, e3⟩
theorem cell_tr {o : Option V} (ok : CellOk K G H c o) (hc : p ∈ c.fp) : ∃ o, H p = some o := by
  cases c with
  | em => cases hc
  | d x => cases hc
  | ol a xs => exact cell_tracked (a := a) (by obtain ⟨e, r⟩ := ok; exact ⟨rfl, r⟩) hc
  | dk a b c => exact cell_tracked (K := K) (G := G) (a := a) (by obtain ⟨e, r⟩ := ok; exact ⟨rfl, r⟩) hc
  | scr a ns => cases hc
  | xc a cls d x => cases hc
  | fv a m => cases hc
  | gx t => obtain ⟨o, e, _⟩ := GX.tr ok.2 hc; exact ⟨o, e⟩
  | ob a n fs => exact cell_tracked (K := K) (G := G) (a := a) (by obtain ⟨e, r⟩ := ok; exact ⟨rfl, r⟩) hc
  | od a kvs => exact cell_tracked (K := K) (G := G) (a := a) (by obtain ⟨e, r⟩ := ok; exact ⟨rfl, r⟩) hc
  | dx a b c xs n ys => exact cell_tracked (K := K) (G := G) (a := a) (by obtain ⟨e, r⟩ := ok; exact ⟨rfl, r⟩) hc
theorem notTE_dT {ws : List (List Key × V)} : notTE (.dT ws) := ⟨fun _ z => (nomatch z), fun _ z => (nomatch z), fun _ z => (nomatch z)⟩
theorem notTE_ins {C dx : Addr} {ws : List (Str × V)} : notTE (.ins C dx ws) := ⟨fun _ z => (nomatch z), fun _ z => (nomatch z), fun _ z => (nomatch z)⟩
theorem cell_te {c : Cell} {p : Addr} {o : Option V} (ok : CellOk K G H c o) (hc : p ∈ c.fp) : ∀ x, H p = some x → notTE x := by
  have one : ∀ {y : HO}, H p = some y → notTE y → ∀ x, H p = some x → notTE x := fun {y} e h x e2 => by
    rw [e] at e2
    cases e2
    exact h
  cases c with
  | em => cases hc
  | d x => cases hc
  | ol a xs =>
    obtain ⟨_, vs, e, _⟩ := ok
    rw [List.mem_singleton.mp hc] at one ⊢
    exact one e notTE_lst
  | dk a b c =>
    obtain ⟨_, _, _, _, n, xs, ys, e1, e2, e3, _⟩ := ok
    simp only [Cell.fp, List.mem_cons, List.not_mem_nil, or_false] at hc
    rcases hc with rfl | rfl | rfl
    · exact one e1 notTE_lst
    · exact one e2 notTE_lst
    · exact one e3 notTE_lst
  | scr a ns => cases hc
  | xc a cls d x => cases hc
  | fv a m => cases hc
  | gx t => obtain ⟨o, e, n1, n2⟩ := GX.tr ok.2 hc; exact one e ⟨n1, n2⟩
  | ob a n fs =>
    obtain ⟨_, C, dx, ws, e, _⟩ := ok
    rw [List.mem_singleton.mp hc] at one ⊢
    exact one e notTE_ins
  | od a kvs =>
    obtain ⟨_, ws, e, _⟩ := ok
    rw [List.mem_singleton.mp hc] at one ⊢
    exact one e notTE_dT
  | dx a b c xs n ys =>
    obtain ⟨_, _, _, _, e1, e2, e3⟩ := ok
    simp only [Cell.fp, List.mem_cons, List.not_mem_nil, or_false] at hc
    rcases hc with rfl | rfl | rfl
    · exact one e1 notTE_lst
    · exact one e2 notTE_lst
    · exact one e3 notTE_lst
theorem CellOk.stay {o : Option V} (ok : CellOk K G H c o) (sg : Same G G') (hk : ∀ b ∈ c.fp, H' b = H b) : CellOk K G' H' c o := by
  cases c with
  | em => trivial
  | d x => obtain ⟨v, e, h⟩ := ok; exact ⟨v, e, h.mono sg⟩
  | ol a xs =>
    obtain ⟨e, vs, h, t⟩ := ok
    exact ⟨e, vs, by rw [hk a (by simp [Cell.fp])]; exact h, t.mono sg⟩
  | dk a b c =>
    obtain ⟨e, h1, h2, h3, n, xs, ys, e1, e2, e3, r⟩ := ok
    exact ⟨e, h1, h2, h3, n, xs, ys, by rw [hk a (by simp [Cell.fp])]; exact e1, by rw [hk b (by simp [Cell.fp])]; exact e2, by rw [hk c (by simp [Cell.fp])]; exact e3, r⟩
  | scr a ns => exact ⟨ok.1, sg.seq ok.2⟩
  | fv a m => exact ⟨ok.1, ok.2.trans sg⟩
  | gx t => exact ⟨ok.1, GX.stay ok.2 sg hk⟩
  | xc a cls d x => exact ⟨ok.1, ok.2.mono sg⟩
  | ob a n fs =>
    obtain ⟨e, C, dx, ws, h, k, e2, t⟩ := ok
    exact ⟨e, C, dx, ws, by rw [hk a (by simp [Cell.fp])]; exact h, k, e2, t.mono sg⟩
  | od a kvs =>
    obtain ⟨e, ws, h, t1, t2⟩ := ok
    exact ⟨e, ws, by rw [hk a (by simp [Cell.fp])]; exact h, t1, t2.mono sg⟩
  | dx a b c xs n ys =>
    obtain ⟨e, h1, h2, h3, e1, e2, e3⟩ := ok
    exact ⟨e, h1, h2, h3, by rw [hk a (by simp [Cell.fp])]; exact e1, by rw [hk b (by simp [Cell.fp])]; exact e2, by rw [hk c (by simp [Cell.fp])]; exact e3⟩
theorem Rel.tr (R : Rel K B G δ σ H) (h : δ[i]? = some c) (hc : p ∈ c.fp) : ∃ o, H p = some o := by
  obtain ⟨o, _, ok⟩ := R.at h
  exact cell_tr ok hc
theorem Rel.freeG (R : Rel K B G δ σ H) (h : H p = none) : G p = none := R.sg.free h
theorem Rel.freeB (R : Rel K B G δ σ H) (h : H p = none) : B p = none := R.sb.free h
theorem Rel.laid (R : Rel K B G δ σ H) (h : H p = none) (nt : ∀ ps, o ≠ .tbl ps := by exact fun _ z => (nomatch z)) : Rel K B (upd G p o) δ σ (upd H p o) ∧ Same G (upd G p o) := by
  have sG : Same G (upd G p o) := same_new (R.freeG h)
  refine ⟨⟨R.len, fun b x e => ?_, R.sb.trans (same_new h), fun b => ?_, fun i c w e1 e2 => ?_, R.ap, fun i c b e hb => ?_, ⟨tabs_new R.tt.t h, R.tt.n.updG nt⟩⟩, sG⟩
  · by_cases hb : b = p
    · subst hb; rw [upd_same] at e ⊢; exact e
    · rw [upd_ne hb] at e ⊢; exact R.sg _ _ e
  · by_cases hb : b = p
    · subst hb; exact .inr (R.freeB h)
    · rw [upd_ne hb]; exact R.dj b
  · refine (R.ok i c w e1 e2).stay sG fun b hb => ?_
    obtain ⟨x, ex⟩ := R.tr e1 hb
    exact upd_ne (ne_of_none ex h)
  · obtain ⟨x, ex⟩ := R.tr e hb
    obtain ⟨f1, f2⟩ := R.fr i c b e hb
    exact ⟨by rw [upd_ne (ne_of_none ex h)]; exact f1, f2⟩
theorem Rel.laidT (R : Rel K B G δ σ H) (h : H p = none) {o : Obj} {xs : List V} (hd : o.dict = none) : Rel K B (upd G p (tupH o xs)) δ σ (upd H p (tupH o xs)) ∧ Same G (upd G p (tupH o xs)) ∧ TupAt (upd G p (tupH o xs)) p xs := by
  obtain ⟨r, s⟩ := R.laid h tupH_tbl
  exact ⟨r, s, o, hd, upd_same⟩
theorem Rel.grow (R : Rel K B G δ σ H) (h : H p = none) : Rel K B G δ σ (upd H p o) := by
  refine ⟨R.len, R.sg.trans (same_new h), R.sb.trans (same_new h), R.dj, fun i c w e1 e2 => ?_, R.ap, R.fr, ⟨tabs_new R.tt.t h, R.tt.n⟩⟩
  refine (R.ok i c w e1 e2).stay (Same.refl _) fun b hb => ?_
  obtain ⟨x, ex⟩ := R.tr e1 hb
  exact upd_ne (ne_of_none ex h)
theorem Rel.growB (R : Rel K B G δ σ H) (h : H p = none) (nt : notTE o := by exact ⟨fun _ z => (nomatch z), fun _ z => (nomatch z), fun _ z => (nomatch z)⟩) : Rel K (upd B p o) G δ σ (upd H p o) := by
  refine ⟨R.len, R.sg.trans (same_new h), fun b x e => ?_, fun b => ?_, fun i c w e1 e2 => ?_, R.ap, fun i c b e hb => ?_, ⟨tabs_new R.tt.t h, R.tt.n.updB nt⟩⟩
  · by_cases hb : b = p
    · subst hb; rw [upd_same] at e ⊢; exact e
    · rw [upd_ne hb] at e ⊢; exact R.sb _ _ e
  · by_cases hb : b = p
    · subst hb; exact .inl (R.freeG h)
    · rw [upd_ne hb]; exact R.dj b
  · refine (R.ok i c w e1 e2).stay (Same.refl _) fun b hb => ?_
    obtain ⟨x, ex⟩ := R.tr e1 hb
    exact upd_ne (ne_of_none ex h)
  · obtain ⟨x, ex⟩ := R.tr e hb
    obtain ⟨f1, f2⟩ := R.fr i c b e hb
    exact ⟨f1, by rw [upd_ne (ne_of_none ex h)]; exact f2⟩
theorem Rel.putB (R : Rel K B G δ σ H) {u : HO} (h : B p = some u) (hu : notTE u) (nt : notTE o := by exact ⟨fun _ z => (nomatch z), fun _ z => (nomatch z), fun _ z => (nomatch z)⟩) : Rel K (upd B p o) G δ σ (upd H p o) := by
  have gp : G p = none := by
    rcases R.dj p with e | e
    · exact e
    · rw [h] at e; cases e
  refine ⟨R.len, fun b x e => ?_, fun b x e => ?_, fun b => ?_, fun i c w e1 e2 => ?_, R.ap, fun i c b e hb => ?_, ⟨tabs_upd R.tt.t fun x e => by rw [R.sb _ _ h] at e; cases e; exact hu, R.tt.n.updB nt⟩⟩
  · have hb : b ≠ p := fun z => by rw [z, gp] at e; cases e
    rw [upd_ne hb]; exact R.sg _ _ e
  · by_cases hb : b = p
    · subst hb; rw [upd_same] at e ⊢; exact e
    · rw [upd_ne hb] at e ⊢; exact R.sb _ _ e
  · by_cases hb : b = p
    · subst hb; exact .inl gp
    · rw [upd_ne hb]; exact R.dj b
  · refine (R.ok i c w e1 e2).stay (Same.refl _) fun b hb => upd_ne fun z => ?_
    have := (R.fr i c b e1 hb).2
    rw [z, h] at this; cases this
  · obtain ⟨f1, f2⟩ := R.fr i c b e hb
    refine ⟨f1, ?_⟩
    rw [upd_ne (fun z => by rw [z, h] at f2; cases f2)]; exact f2
theorem Rel.takeB (R : Rel K B G δ σ H) {B0 : Hp} (h0 : B0 p = none) (hs : ∀ b, b ≠ p → B0 b = B b) {u : HO} (h : B p = some u) : Rel K B0 (upd G p u) δ σ H ∧ Same G (upd G p u) := by
  have gp : G p = none := by
    rcases R.dj p with e | e
    · exact e
    · rw [h] at e; cases e
  have sG : Same G (upd G p u) := same_new gp
  refine ⟨⟨R.len, fun b x e => ?_, fun b x e => ?_, fun b => ?_, fun i c w e1 e2 => (R.ok i c w e1 e2).stay sG fun _ _ => rfl, R.ap, fun i c b e hb => ?_, ⟨R.tt.t, (R.tt.n.lessB fun b o e => by
    have hb : b ≠ p := fun z => by rw [z, h0] at e; cases e
    rw [hs b hb] at e; exact e).updG (R.tt.n.b _ _ h).1⟩⟩, sG⟩
  · by_cases hb : b = p
    · subst hb; rw [upd_same] at e; cases e; exact R.sb _ _ h
    · rw [upd_ne hb] at e; exact R.sg _ _ e
  · have hb : b ≠ p := fun z => by rw [z, h0] at e; cases e
    rw [hs b hb] at e; exact R.sb _ _ e
  · by_cases hb : b = p
    · subst hb; exact .inr h0
    · rw [upd_ne hb, hs b hb]; exact R.dj b
  · obtain ⟨f1, f2⟩ := R.fr i c b e hb
    have hbp : b ≠ p := fun z => by rw [z, h] at f2; cases f2
    exact ⟨by rw [upd_ne hbp]; exact f1, by rw [hs b hbp]; exact f2⟩
theorem Rel.set {v : V} (R : Rel K B G δ σ H) (ok : CellOk K G H c (some v)) (hn : ∀ a ∈ c.fp, (G a = none ∧ B a = none) ∧ ∀ j c', j ≠ i → δ[j]? = some c' → a ∉ c'.fp) : Rel K B G (δ.set i c) (σ.set i (some v)) H := by
  have get : ∀ {j : Nat} {x : Cell}, (δ.set i c)[j]? = some x → (j = i ∧ x = c) ∨ (j ≠ i ∧ δ[j]? = some x) := fun {j x} e => by
    by_cases hj : j = i
    · subst hj
      rw [List.getElem?_set] at e
      simp only [if_true] at e
      split at e
      · cases e; exact .inl ⟨rfl, rfl⟩
      · cases e
    · rw [List.getElem?_set_ne (Ne.symm hj)] at e; exact .inr ⟨hj, e⟩
  refine ⟨by simp [R.len], R.sg, R.sb, R.dj, fun j x w e1 e2 => ?_, fun j k x y a e1 e2 m1 m2 => ?_, fun j x a e m => ?_, R.tt⟩
  · rcases get e1 with ⟨rfl, rfl⟩ | ⟨hj, e1⟩
    · rw [List.getElem?_set] at e2
      simp only [if_true] at e2
      split at e2
      · cases e2; exact ok
      · cases e2
    · rw [List.getElem?_set_ne (Ne.symm hj)] at e2
      exact R.ok j x w e1 e2
  · rcases get e1 with ⟨h1, h1'⟩ | ⟨h1, e3⟩
    · rcases get e2 with ⟨h2, h2'⟩ | ⟨h2, e4⟩
      · rw [h1, h2]
      · rw [h1'] at m1; exact absurd m2 ((hn a m1).2 k y h2 e4)
    · rcases get e2 with ⟨h2, h2'⟩ | ⟨h2, e4⟩
      · rw [h2'] at m2; exact absurd m1 ((hn a m2).2 j x h1 e3)
      · exact R.ap j k x y a e3 e4 m1 m2
  · rcases get e with ⟨_, rfl⟩ | ⟨_, e⟩
    · exact (hn a m).1
    · exact R.fr j x a e m
theorem Rel.setD {v : V} {x : PyData} (R : Rel K B G δ σ H) (h : Dn K G v x) : Rel K B G (δ.set i (.d x)) (σ.set i (some v)) H :=
  R.set ⟨v, rfl, h⟩ fun a m => by cases m
theorem Rel.clear (R : Rel K B G δ σ H) (o : Option V) : Rel K B G (δ.set i .em) (σ.set i o) H := by
  have get : ∀ {j : Nat} {x : Cell}, (δ.set i .em)[j]? = some x → x = .em ∨ (j ≠ i ∧ δ[j]? = some x) := fun {j x} e => by
    by_cases hj : j = i
    · subst hj
      rw [List.getElem?_set] at e
      simp only [if_true] at e
      split at e
      · cases e; exact .inl rfl
      · cases e
    · rw [List.getElem?_set_ne (Ne.symm hj)] at e; exact .inr ⟨hj, e⟩
  refine ⟨by simp [R.len], R.sg, R.sb, R.dj, fun j x w e1 e2 => ?_, fun j k x y a e1 e2 m1 m2 => ?_, fun j x a e m => ?_, R.tt⟩
  · rcases get e1 with rfl | ⟨hj, e1⟩
    · trivial
    · rw [List.getElem?_set_ne (Ne.symm hj)] at e2
      exact R.ok j x w e1 e2
  · rcases get e1 with rfl | ⟨h1, e1⟩
    · cases m1
    · rcases get e2 with rfl | ⟨h2, e2⟩
      · cases m2
      · exact R.ap j k x y a e1 e2 m1 m2
  · rcases get e with rfl | ⟨_, e⟩
    · cases m
    · exact R.fr j x a e m
theorem Rel.recell {o : Option V} (R : Rel K B G δ σ H) (hσ : σ[i]? = some o) (ok : CellOk K G H c o) (hn : ∀ a ∈ c.fp, (G a = none ∧ B a = none) ∧ ∀ j c', j ≠ i → δ[j]? = some c' → a ∉ c'.fp) : Rel K B G (δ.set i c) σ H := by
  have hi : i < σ.length := (List.getElem?_eq_some_iff.mp hσ).1
  cases o with
  | some v =>
    have := R.set (i := i) (v := v) ok hn
    have e : σ.set i (some v) = σ := by
      apply List.ext_getElem?
      intro j
      by_cases hj : j = i
      · subst hj; rw [List.getElem?_set_self hi, hσ]
      · rw [List.getElem?_set_ne (Ne.symm hj)]
    rw [e] at this; exact this
  | none =>
    cases c with
    | em =>
      have := R.clear (i := i) none
      have e : σ.set i none = σ := by
        apply List.ext_getElem?
        intro j
        by_cases hj : j = i
        · subst hj; rw [List.getElem?_set_self hi, hσ]
        · rw [List.getElem?_set_ne (Ne.symm hj)]
      rw [e] at this; exact this
    | d x => obtain ⟨v, e, _⟩ := ok; cases e
    | ol a xs => obtain ⟨e, _⟩ := ok; cases e
    | dk a b c => obtain ⟨e, _⟩ := ok; cases e
    | scr a ns => obtain ⟨e, _⟩ := ok; cases e
    | xc a cls d x => obtain ⟨e, _⟩ := ok; cases e
    | ob a n fs => obtain ⟨e, _⟩ := ok; cases e
    | fv a m => obtain ⟨e, _⟩ := ok; cases e
    | gx t => obtain ⟨e, _⟩ := ok; cases e
    | od a kvs => obtain ⟨e, _⟩ := ok; cases e
    | dx a b c xs n ys => obtain ⟨e, _⟩ := ok; cases e
theorem Rel.freeze {xs : List PyData} (R : Rel K B G δ σ H) (h : δ[i]? = some (.ol a xs)) :
    ∃ vs, H a = some (.lst vs) ∧ DnL K G vs xs ∧ σ[i]? = some (some (.ref a)) ∧ Same G (upd G a (.lst vs)) ∧ Rel K B (upd G a (.lst vs)) (δ.set i (.d (.list xs))) σ H ∧ Dn K (upd G a (.lst vs)) (.ref a) (.list xs) := by
  obtain ⟨o, hσ, rfl, vs, e, t⟩ := R.at h
  obtain ⟨ga, ba⟩ := R.fr i _ a h (by simp [Cell.fp])
  have sG : Same G (upd G a (.lst vs)) := same_new ga
  have dn : Dn K (upd G a (.lst vs)) (.ref a) (.list xs) := .lst upd_same (t.mono sG)
  have hi : i < δ.length := (List.getElem?_eq_some_iff.mp h).1
  have get : ∀ {j : Nat} {x : Cell}, (δ.set i (.d (.list xs)))[j]? = some x → (j = i ∧ x = .d (.list xs)) ∨ (j ≠ i ∧ δ[j]? = some x) := fun {j x} e => by
    by_cases hj : j = i
    · subst hj
      rw [List.getElem?_set_self hi] at e; cases e; exact .inl ⟨rfl, rfl⟩
    · rw [List.getElem?_set_ne (Ne.symm hj)] at e; exact .inr ⟨hj, e⟩
  refine ⟨vs, e, t, hσ, sG, ⟨by simp [R.len], fun b x q => ?_, R.sb, fun b => ?_, fun j x w e1 e2 => ?_, fun j k x y z e1 e2 m1 m2 => ?_, fun j x z e1 m => ?_, ⟨R.tt.t, R.tt.n.updG fun _ z => (nomatch z)⟩⟩, dn⟩
  · by_cases hb : b = a
    · subst hb; rw [upd_same] at q; cases q; exact e
    · rw [upd_ne hb] at q; exact R.sg _ _ q
  · by_cases hb : b = a
    · subst hb; exact .inr ba
    · rw [upd_ne hb]; exact R.dj b
  · rcases get e1 with ⟨rfl, rfl⟩ | ⟨hj, e1⟩
    · rw [hσ] at e2; cases e2; exact ⟨_, rfl, dn⟩
    · exact (R.ok j x w e1 e2).stay sG fun _ _ => rfl
  · rcases get e1 with ⟨_, rfl⟩ | ⟨h1, e1⟩
    · cases m1
    · rcases get e2 with ⟨_, rfl⟩ | ⟨h2, e2⟩
      · cases m2
      · exact R.ap j k x y z e1 e2 m1 m2
  · rcases get e1 with ⟨_, rfl⟩ | ⟨hj, e1⟩
    · cases m
    · obtain ⟨f1, f2⟩ := R.fr j x z e1 m
      refine ⟨?_, f2⟩
      rw [upd_ne (fun q => ?_)]
      · exact f1
      · subst q
        exact hj (R.ap j i x _ z e1 h m (by simp [Cell.fp]))
theorem Rel.write {xs ys : List PyData} {ws : List V} (R : Rel K B G δ σ H) (h : δ[i]? = some (.ol a xs)) (t' : DnL K G ws ys) : Rel K B G (δ.set i (.ol a ys)) σ (upd H a (.lst ws)) := by
  obtain ⟨o, hσ, rfl, vs, e, t⟩ := R.at h
  obtain ⟨ga, ba⟩ := R.fr i _ a h (by simp [Cell.fp])
  have hi : i < δ.length := (List.getElem?_eq_some_iff.mp h).1
  have get : ∀ {j : Nat} {x : Cell}, (δ.set i (.ol a ys))[j]? = some x → (j = i ∧ x = .ol a ys) ∨ (j ≠ i ∧ δ[j]? = some x) := fun {j x} e => by
    by_cases hj : j = i
    · subst hj
      rw [List.getElem?_set_self hi] at e; cases e; exact .inl ⟨rfl, rfl⟩
    · rw [List.getElem?_set_ne (Ne.symm hj)] at e; exact .inr ⟨hj, e⟩
  refine ⟨by simp [R.len], fun b x q => ?_, fun b x q => ?_, R.dj, fun j x w e1 e2 => ?_, fun j k x y z e1 e2 m1 m2 => ?_, fun j x z e1 m => ?_, ⟨tabs_upd R.tt.t fun x e' => by rw [e] at e'; cases e'; exact notTE_lst, R.tt.n⟩⟩
  · rw [upd_ne (fun z => by rw [z, ga] at q; cases q)]; exact R.sg _ _ q
  · rw [upd_ne (fun z => by rw [z, ba] at q; cases q)]; exact R.sb _ _ q
  · rcases get e1 with ⟨rfl, rfl⟩ | ⟨hj, e1⟩
    · rw [hσ] at e2; cases e2; exact ⟨rfl, ws, upd_same, t'⟩
    · refine (R.ok j x w e1 e2).stay (Same.refl _) fun b hb => upd_ne fun q => ?_
      rw [q] at hb
      exact hj (R.ap j i x _ a e1 h hb (by simp [Cell.fp]))
  · rcases get e1 with ⟨h1, rfl⟩ | ⟨h1, e1⟩
    · rcases get e2 with ⟨h2, rfl⟩ | ⟨h2, e2⟩
      · rw [h1, h2]
      · exact h1.trans (R.ap i k _ y z h e2 (by simpa [Cell.fp] using m1) m2)
    · rcases get e2 with ⟨h2, rfl⟩ | ⟨h2, e2⟩
      · exact (R.ap j i x _ z e1 h m1 (by simpa [Cell.fp] using m2)).trans h2.symm
      · exact R.ap j k x y z e1 e2 m1 m2
  · rcases get e1 with ⟨_, rfl⟩ | ⟨hj, e1⟩
    · have : z = a := by simpa [Cell.fp] using m
      subst this; exact ⟨ga, ba⟩
    · exact R.fr j x z e1 m
end
end DL
set_option Elab.async false
set_option linter.all false
set_option maxRecDepth 100000
set_option maxHeartbeats 4000000
namespace DL
open PySem PySem.Spec PyProof.Rows L2
section
variable {X : Cx}
def NewT (H : Hp) (Q : VK) (xs : List V) : Prop := ∀ p o, o.dict = none → H p = none → Q (.ref p) (upd H p (tupH o xs))
theorem NewT.at {pins : List (Addr × Obj)} {σ : L2.St} {H : Hp} {s : Shared} {Q : VK} {xs : List V} {us : List Value} {k : Nat} (h : NewT H Q xs) (I : Inv X pins σ H s) (z : xs.length ≤ sizeLine) (r : Vals xs us) :
    ∃ (v : V) (H' : Hp), Inv X pins σ H' { s with heap := s.heap.push (tupO us), toks := k } ∧ RelV v (.ref s.heap.objs.size) ∧ Q v H' :=
  ⟨.ref s.heap.objs.size, _, I.laid (fun _ _ => Heap.get?_push_of_some _) (Nat.le_refl _) (tupH_ok (Heap.get?_push_size _ rfl) rfl rfl z r), rfl, h _ _ rfl (I.hok.fresh (Nat.le_refl _))⟩
def tTupC (t : TA) : TE := fun σ H Q => t σ H fun xs H1 => xs.length ≤ sizeLine ∧ NewT H1 Q xs
theorem pe_tupC {es : List Expr} {pos : Pos} {x1} {t : TA} (h : PA X es t) : PE X (.Tuple es x1 pos) (tTupC t) :=
  ⟨fun pins s σ H Q I hq => wpAny_Tuple_spliced (wpAny_mono (h.run pos pins s σ H _ I hq) (fun us s1 ⟨xs, H1, I1, r, z, q⟩ => ⟨by rw [← r.length]; exact z, q.at I1 z r⟩) fun _ _ z => z)⟩
theorem call_tupleC : CallR X (.type "tuple") (fun xs H Q => ∃ p ys, xs = [.ref p] ∧ ((SqL X.K H p ys ∧ NewT H Q ys) ∨ (SqT X.K H p ys ∧ Q (.ref p) H))) := by
  rintro pins s σ H _ us Q I r ⟨p, ys, rfl, ⟨hq, q⟩ | ⟨hq, q⟩⟩
  · obtain _ | ⟨rx, _ | _⟩ := r
    cases rx
    obtain ⟨its, r2, pl, hz⟩ := I.list hq
    refine call_tuple_list pl.isList (fun g keep => q.at (I.kept (t' := s.toks) keep) hz r2) ?_
    have := r2.length
    simp only [List.size_toArray]; omega
  · exact call_tuple_of pins s σ H _ us Q I r ⟨p, ys, rfl, .inr ⟨hq, q⟩⟩
def rCatC (K : PySem.W.Frag) : R2 := fun x y H Q => ∃ a b xs ys, x = .ref a ∧ y = .ref b ∧ SqT K H a xs ∧ SqT K H b ys ∧ xs.length + ys.length ≤ sizeLine ∧
  (xs = [] → Q (.ref b) H) ∧ (xs ≠ [] → ys = [] → Q (.ref a) H) ∧ (xs ≠ [] → ys ≠ [] → NewT H Q (xs ++ ys))
theorem op_catC : OpR X (binaryOp .Add) (rCatC X.K) := by
  rintro pins s σ H _ _ v u Q I rx ry ⟨a, b, xs, ys, rfl, rfl, ha, hb, hz, q0, q1, q2⟩
  by_cases hx : xs = []
  · exact op_catA pins s σ H _ _ v u Q I rx ry ⟨a, b, xs, ys, rfl, rfl, ha, hb, hz, q0, q1, fun n => absurd hx n⟩
  · cases rx; cases ry
    obtain ⟨its, r1, p1, _⟩ := I.tuple ha
    obtain ⟨its2, r2, p2, _⟩ := I.tuple hb
    have l1 := r1.length
    have l2 := r2.length
    exact HT.cat_tup p1 p2 (fun z => hx (r1.nil_iff.mp z)) (fun z => ⟨.ref a, H, I, rfl, q1 hx (r2.nil_iff.mp z)⟩)
      (fun z => (q2 hx fun w => z (r2.nil_iff.mpr w)).at (k := s.toks) I (by rw [List.length_append]; exact hz) (r1.append r2)) (by omega)
def rSlC (K : PySem.W.Frag) : V → Option Int → Option Int → Hp → VK → Prop := fun x lo hi H Q => ∃ a xs, x = .ref a ∧ SqT K H a xs ∧
  (HT.sIx xs.length 0 lo = 0 ∧ HT.sIx xs.length xs.length hi = xs.length → Q (.ref a) H) ∧ (¬ (HT.sIx xs.length 0 lo = 0 ∧ HT.sIx xs.length xs.length hi = xs.length) → NewT H Q (cutV xs lo hi))
theorem sl_tupC : SlR X (rSlC X.K) := by
  rintro pins s σ H _ v vl vu lo hi sl Q I rx hs pl pu ⟨a, xs, rfl, hx, q1, q2⟩
  by_cases hw : HT.sIx xs.length 0 lo = 0 ∧ HT.sIx xs.length xs.length hi = xs.length
  · exact sl_tupA pins s σ H _ v vl vu lo hi sl Q I rx hs pl pu ⟨a, xs, rfl, hx, q1, fun n => absurd hw n⟩
  · cases rx
    obtain ⟨its, r, ht, hz⟩ := I.tuple hx
    have hlen : its.toArray.size = xs.length := by rw [List.size_toArray]; exact r.length.symm
    refine ⟨"tuple", _, PyProof.Rows.slot_tuple_getitem.lookup, ht.typeIs, HT.getItem_tuple_cut ht hs pl pu (by rw [hlen]; exact hw) ?_ (by rw [hlen]; exact hz)⟩
    rw [hlen]
    exact (q2 hw).at (k := s.toks) I (Nat.le_trans (cutV_length xs lo hi) hz) ((r.drop _).take _)
end
end DL
set_option Elab.async false
set_option linter.all false
set_option maxRecDepth 100000
set_option maxHeartbeats 4000000
namespace DL
open PySem PySem.Spec PyProof.Rows L2
variable [Tb]

inductive Opd where
  | d (x : PyData)
  | s (i : Nat)
def OpdOk (K : PySem.W.Frag) (G : Hp) (σ : L2.St) (v : V) : Opd → Prop
  | .d x => Dn K G v x
  | .s i => σ[i]? = some (some v)
inductive OpdsOk (K : PySem.W.Frag) (G : Hp) (σ : L2.St) : List V → List Opd → Prop
  | nil : OpdsOk K G σ [] []
  | cons {v : V} {vs : List V} {o : Opd} {os : List Opd} (h : OpdOk K G σ v o) (t : OpdsOk K G σ vs os) : OpdsOk K G σ (v :: vs) (o :: os)
def Bor (K : PySem.W.Frag) (G H : Hp) (v : V) (x : PyData) : Prop := Dn K G v x ∨ ∃ a vs xs, v = .ref a ∧ x = .list xs ∧ H a = some (.lst vs) ∧ DnL K G vs xs
def use (o : Opd) (δ : DS) (k : PyData → Prop) : Prop :=
  match o with
  | .d x => k x
  | .s i => match δ[i]? with
    | some (.d x) => k x
    | some (.ol _ xs) => k (.list xs)
    | _ => False
def lk (o : Opd) (δ : DS) (k : PyData → DS → Prop) : Prop :=
  match o with
  | .d x => k x δ
  | .s i => match δ[i]? with
    | some (.d x) => k x δ
    | some (.ol _ xs) => k (.list xs) (δ.set i (.d (.list xs)))
    | _ => False
def useL : List Opd → DS → (List PyData → Prop) → Prop
  | [], _, k => k []
  | o :: os, δ, k => use o δ fun x => useL os δ fun xs => k (x :: xs)
def lkL : List Opd → DS → (List PyData → DS → Prop) → Prop
  | [], δ, k => k [] δ
  | o :: os, δ, k => lk o δ fun x δ1 => lkL os δ1 fun xs δ2 => k (x :: xs) δ2
inductive BorL (K : PySem.W.Frag) (G H : Hp) : List V → List PyData → Prop
  | nil : BorL K G H [] []
  | cons {v : V} {vs : List V} {d : PyData} {ds : List PyData} (h : Bor K G H v d) (t : BorL K G H vs ds) : BorL K G H (v :: vs) (d :: ds)
section
variable {K : PySem.W.Frag} {B G G' H H' : Hp} {δ δ' : DS} {σ : L2.St} {v : V} {o : Opd} {x : PyData}
theorem OpdOk.mono (s : Same G G') (h : OpdOk K G σ v o) : OpdOk K G' σ v o := by
  cases o with
  | d x => exact Dn.mono s x h
  | s i => exact h
theorem OpdsOk.mono (s : Same G G') : ∀ {vs : List V} {os : List Opd}, OpdsOk K G σ vs os → OpdsOk K G' σ vs os
  | _, [], h => by cases h; exact .nil
  | _, o :: os, h => by cases h with | cons a b => exact .cons (a.mono s) (OpdsOk.mono s b)
theorem Bor.dn (R : Rel K B G δ σ H) (h : Bor K G H v x) : Dn K H v x := by
  rcases h with h | ⟨a, vs, xs, rfl, rfl, e, t⟩
  · exact h.mono R.sg
  · exact .lst e (t.mono R.sg)
theorem use_ok {k : PyData → Prop} (R : Rel K B G δ σ H) (ok : OpdOk K G σ v o) (h : use o δ k) : ∃ x, k x ∧ Bor K G H v x := by
  cases o with
  | d x => exact ⟨x, h, .inl ok⟩
  | s i =>
    have ok : σ[i]? = some (some v) := ok
    unfold use at h
    simp only at h
    cases e : δ[i]? with
    | none => rw [e] at h; exact h.elim
    | some c =>
      rw [e] at h
      obtain ⟨w, hw, co⟩ := R.at e
      rw [ok] at hw; cases hw
      cases c with
      | em => exact h.elim
      | dk a b c => exact h.elim
      | scr a ns => exact h.elim
      | xc a cls d x => exact h.elim
      | ob a n fs => exact h.elim
      | fv a m => exact h.elim
      | gx t => exact h.elim
      | od a kvs => exact h.elim
      | dx a b c xs n ys => exact h.elim
      | d x =>
        obtain ⟨v', e', q⟩ := co
        cases e'
        exact ⟨x, h, .inl q⟩
      | ol a xs =>
        obtain ⟨e', vs, q, t⟩ := co
        cases e'
        exact ⟨_, h, .inr ⟨a, vs, xs, rfl, rfl, q, t⟩⟩
theorem lk_ok {k : PyData → DS → Prop} (R : Rel K B G δ σ H) (ok : OpdOk K G σ v o) (h : lk o δ k) : ∃ G' δ' x, k x δ' ∧ Same G G' ∧ Rel K B G' δ' σ H ∧ Dn K G' v x := by
  cases o with
  | d x => exact ⟨G, δ, x, h, Same.refl _, R, ok⟩
  | s i =>
    have ok : σ[i]? = some (some v) := ok
    unfold lk at h
    simp only at h
    cases e : δ[i]? with
    | none => rw [e] at h; exact h.elim
    | some c =>
      rw [e] at h
      cases c with
      | em => exact h.elim
      | dk a b c => exact h.elim
      | scr a ns => exact h.elim
      | xc a cls d x => exact h.elim
      | ob a n fs => exact h.elim
      | fv a m => exact h.elim
      | gx t => exact h.elim
      | od a kvs => exact h.elim
      | dx a b c xs n ys => exact h.elim
      | d x =>
        obtain ⟨w, hw, co⟩ := R.at e
        rw [ok] at hw; cases hw
        obtain ⟨v', e', q⟩ := co
        cases e'
        exact ⟨G, δ, x, h, Same.refl _, R, q⟩
      | ol a xs =>
        obtain ⟨vs, q1, q2, q3, q4, q5, q6⟩ := R.freeze e
        rw [ok] at q3; cases q3
        exact ⟨_, _, _, h, q4, q5, q6⟩
theorem useL_ok (R : Rel K B G δ σ H) : ∀ {vs : List V} {os : List Opd} {k : List PyData → Prop}, OpdsOk K G σ vs os → useL os δ k → ∃ xs, k xs ∧ BorL K G H vs xs
  | _, [], _, h, q => by cases h; exact ⟨[], q, .nil⟩
  | _, o :: os, k, h, q => by
    cases h with
    | cons a b =>
      obtain ⟨x, q1, b1⟩ := use_ok R a q
      obtain ⟨xs, q2, b2⟩ := useL_ok R b q1
      exact ⟨x :: xs, q2, .cons b1 b2⟩
theorem lkL_ok : ∀ {vs : List V} {os : List Opd} {G : Hp} {δ : DS} {k : List PyData → DS → Prop}, Rel K B G δ σ H → OpdsOk K G σ vs os → lkL os δ k → ∃ G' δ' xs, k xs δ' ∧ Same G G' ∧ Rel K B G' δ' σ H ∧ DnL K G' vs xs
  | _, [], G, δ, _, R, h, q => by cases h; exact ⟨G, δ, [], q, Same.refl _, R, .nil⟩
  | _, o :: os, G, δ, k, R, h, q => by
    cases h with
    | cons a b =>
      obtain ⟨G1, δ1, x, q1, s1, R1, d1⟩ := lk_ok R a q
      obtain ⟨G2, δ2, xs, q2, s2, R2, d2⟩ := lkL_ok R1 (b.mono s1) q1
      exact ⟨G2, δ2, x :: xs, q2, s1.trans s2, R2, .cons (d1.mono s2) d2⟩
end

abbrev DE := DS → (Opd → DS → Prop) → Prop
abbrev DT := DS → (Bool → DS → Prop) → Prop
abbrev DA := DS → (List Opd → DS → Prop) → Prop
abbrev DL := DS → (List PyData → DS → Prop) → Prop
def up (K : PySem.W.Frag) (w : DE) : TE := fun σ H Q => ∃ B G δ R, Rel K B G δ σ H ∧ w δ R ∧ ∀ v H' G' o δ', R o δ' → Same G G' → Rel K B G' δ' σ H' → OpdOk K G' σ v o → Q v H'
def upT (K : PySem.W.Frag) (w : DT) : TT := fun σ H Q => ∃ B G δ R, Rel K B G δ σ H ∧ w δ R ∧ ∀ b H' G' δ', R b δ' → Same G G' → Rel K B G' δ' σ H' → Q b H'
def upA (K : PySem.W.Frag) (w : DA) : TA := fun σ H Q => ∃ B G δ R, Rel K B G δ σ H ∧ w δ R ∧ ∀ vs H' G' os δ', R os δ' → Same G G' → Rel K B G' δ' σ H' → OpdsOk K G' σ vs os → Q vs H'
def upL (K : PySem.W.Frag) (w : DL) : TE := fun σ H Q => ∃ B G δ R, Rel K B G δ σ H ∧ w δ R ∧ ∀ a vs H' G' xs δ', R xs δ' → Same G G' → Rel K (upd B a (.lst vs)) G' δ' σ H' → B a = none → DnL K G' vs xs → Q (.ref a) H'
abbrev JE (X : Cx) (e : Expr) (w : DE) : Prop := PE X e (up X.K w)
abbrev JT (X : Cx) (e : Expr) (w : DT) : Prop := PT X e (upT X.K w)
abbrev JW (X : Cx) (e : Expr) (w : DT) : Prop := PW X e (upT X.K w)
abbrev JA (X : Cx) (es : List Expr) (w : DA) : Prop := PA X es (upA X.K w)
abbrev JL (X : Cx) (e : Expr) (w : DL) : Prop := PE X e (upL X.K w)
section
variable {X : Cx} {e a b c : Expr} {es : List Expr} {pos : Pos}
theorem pe_le {t t' : TE} (h : PE X e t) (l : ∀ pins s σ H Q, Inv X pins σ H s → t' σ H Q → t σ H Q) : PE X e t' := ⟨fun pins s σ H Q I q => h.run pins s σ H Q I (l pins s σ H Q I q)⟩
theorem pt_le {t t' : TT} (h : PT X e t) (l : ∀ pins s σ H Q, Inv X pins σ H s → t' σ H Q → t σ H Q) : PT X e t' := ⟨fun pins s σ H Q I q => h.run pins s σ H Q I (l pins s σ H Q I q)⟩
theorem pw_le {t t' : TT} (h : PW X e t) (l : ∀ pins s σ H Q, Inv X pins σ H s → t' σ H Q → t σ H Q) : PW X e t' := ⟨fun wh pins s σ H Q I q => h.run wh pins s σ H Q I (l pins s σ H Q I q)⟩
theorem pa_le {t t' : TA} (h : PA X es t) (l : ∀ pins s σ H Q, Inv X pins σ H s → t' σ H Q → t σ H Q) : PA X es t' := ⟨fun pos pins s σ H Q I q => h.run pos pins s σ H Q I (l pins s σ H Q I q)⟩
def wOfL (w : DL) : DE := fun δ R => w δ fun xs δ' => R (.d (.list xs)) δ'
theorem je_ofL {w : DL} (h : JL X e w) : JE X e (wOfL w) := pe_le h fun pins s σ H Q I ⟨B, G, δ, R, rel, hw, k⟩ => by
  refine ⟨B, G, δ, _, rel, hw, fun a vs H' G' xs δ' r sG rel' hB t => ?_⟩
  obtain ⟨rel2, s2⟩ := rel'.takeB (p := a) hB (fun b hb => (upd_ne hb).symm) upd_same
  exact k _ H' _ _ _ r (sG.trans s2) rel2 (Dn.lst upd_same (t.mono s2))

def wVar (i : Nat) : DE := fun δ R => match δ[i]? with
  | some (.d x) => R (.d x) δ
  | some .em => False
  | none => False
  | _ => R (.s i) δ
theorem je_var {i : Nat} {x : Str} (h : PE X (.Name x pos) (tVar i)) : JE X (.Name x pos) (wVar i) := pe_le h fun pins s σ H Q I ⟨B, G, δ, R, rel, hw, k⟩ => by
  unfold wVar at hw
  cases e : δ[i]? with
  | none => rw [e] at hw; exact hw.elim
  | some c =>
    rw [e] at hw
    obtain ⟨w, hw', co⟩ := rel.at e
    cases c with
    | em => exact hw.elim
    | d x =>
      obtain ⟨v, rfl, q⟩ := co
      exact ⟨v, hw', k v H G _ _ hw (Same.refl _) rel q⟩
    | ol a xs =>
      obtain ⟨rfl, _⟩ := co
      exact ⟨_, hw', k _ H G _ _ hw (Same.refl _) rel hw'⟩
    | dk a b c =>
      obtain ⟨rfl, _⟩ := co
      exact ⟨_, hw', k _ H G _ _ hw (Same.refl _) rel hw'⟩
    | ob a n fs =>
      obtain ⟨rfl, _⟩ := co
      exact ⟨_, hw', k _ H G _ _ hw (Same.refl _) rel hw'⟩
    | fv a m =>
      obtain ⟨rfl, _⟩ := co
      exact ⟨_, hw', k _ H G _ _ hw (Same.refl _) rel hw'⟩
    | gx t =>
      obtain ⟨rfl, _⟩ := co
      exact ⟨_, hw', k _ H G _ _ hw (Same.refl _) rel hw'⟩
    | xc a cls d x =>
      obtain ⟨rfl, _⟩ := co
      exact ⟨_, hw', k _ H G _ _ hw (Same.refl _) rel hw'⟩
    | scr a ns =>
      obtain ⟨rfl, _⟩ := co
      exact ⟨_, hw', k _ H G _ _ hw (Same.refl _) rel hw'⟩
    | od a kvs =>
      obtain ⟨rfl, _⟩ := co
      exact ⟨_, hw', k _ H G _ _ hw (Same.refl _) rel hw'⟩
    | dx a b c xs n ys =>
      obtain ⟨rfl, _⟩ := co
      exact ⟨_, hw', k _ H G _ _ hw (Same.refl _) rel hw'⟩
def wC (x : PyData) : DE := fun δ R => R (.d x) δ
theorem je_c {v : V} {x : PyData} (h : PE X e (tC v)) (hv : ∀ K G, Dn K G v x) : JE X e (wC x) := pe_le h fun pins s σ H Q I ⟨B, G, δ, R, rel, hw, k⟩ => k v H G _ _ hw (Same.refl _) rel (hv _ _)
theorem je_int {i j} : JE X (.Constant (.int i) j pos) (wC (.int i)) := je_c pe_int fun _ _ => .int i
theorem je_str {i j} : JE X (.Constant (.str i) j pos) (wC (.str i)) := je_c pe_str fun _ _ => .str i
theorem je_bl {i j} : JE X (.Constant (.bool i) j pos) (wC (.bool i)) := je_c pe_bl fun _ _ => .bl i
theorem je_non {j} : JE X (.Constant .none j pos) (wC .none) := je_c pe_non fun _ _ => .non

def wNil : DA := fun δ R => R [] δ
def wCons (w : DE) (r : DA) : DA := fun δ R => w δ fun o δ1 => r δ1 fun os δ2 => R (o :: os) δ2
theorem ja_nil : JA X [] wNil := pa_le pa_nil fun pins s σ H Q I ⟨B, G, δ, R, rel, hw, k⟩ => k [] H G _ _ hw (Same.refl _) rel .nil
theorem ja_cons {w : DE} {r : DA} (ha : JE X e w) (hr : JA X es r) (hs : starEach (e :: es) X.env = (false, eval e X.env) :: starEach es X.env := by rfl) : JA X (e :: es) (wCons w r) :=
  pa_le (pa_cons ha hr hs) fun pins s σ H Q I ⟨B, G, δ, R, rel, hw, k⟩ =>
    ⟨B, G, δ, _, rel, hw, fun v H1 G1 o δ1 r1 s1 rel1 ok1 => ⟨B, G1, δ1, _, rel1, r1, fun vs H2 G2 os δ2 r2 s2 rel2 ok2 => k (v :: vs) H2 G2 _ _ r2 (s1.trans s2) rel2 (.cons (ok1.mono s2) ok2)⟩⟩

abbrev P2 := PyData → PyData → (PyData → Prop) → Prop
abbrev PN := List PyData → (PyData → Prop) → Prop
def rOf (K : PySem.W.Frag) (p : P2) : R2 := fun x y H Q => ∃ B G δ σ dx dy R, Rel K B G δ σ H ∧ Bor K G H x dx ∧ Bor K G H y dy ∧ p dx dy R ∧ ∀ v H' G' z, R z → Same G G' → Rel K B G' δ σ H' → Dn K G' v z → Q v H'
abbrev OpD (X : Cx) (f : Value → Value → Sem Value) (p : P2) : Prop := OpR X f (rOf X.K p)
def wOp (p : P2) (wa wb : DE) : DE := fun δ R => wa δ fun o1 δ1 => wb δ1 fun o2 δ2 => use o1 δ2 fun x => use o2 δ2 fun y => p x y fun z => R (.d z) δ2
theorem op_up {p : P2} {wa wb : DE} {K : PySem.W.Frag} {σ : L2.St} {H : Hp} {Q : VK} (h : up K (wOp p wa wb) σ H Q) : tOp (rOf K p) (up K wa) (up K wb) σ H Q := by
  obtain ⟨B, G, δ, R, rel, hw, k⟩ := h
  refine ⟨B, G, δ, _, rel, hw, fun v H1 G1 o1 δ1 r1 s1 rel1 ok1 => ⟨B, G1, δ1, _, rel1, r1, fun u H2 G2 o2 δ2 r2 s2 rel2 ok2 => ?_⟩⟩
  obtain ⟨x, q1, b1⟩ := use_ok rel2 (ok1.mono s2) r2
  obtain ⟨y, q2, b2⟩ := use_ok rel2 ok2 q1
  exact ⟨B, G2, δ2, σ, x, y, _, rel2, b1, b2, q2, fun v' H' G' z rz s3 rel3 dz => k v' H' G' _ _ rz (s1.trans (s2.trans s3)) rel3 dz⟩
theorem je_op {p : P2} {op : Operator} {wa wb : DE} (ho : OpD X (binaryOp op) p) (ha : JE X a wa) (hb : JE X b wb) : JE X (.BinOp a op b pos) (wOp p wa wb) :=
  pe_le (pe_op ho ha hb) fun _ _ _ _ _ _ h => op_up h
def wB (w : DE) : DT := fun δ R => w δ fun o δ1 => use o δ1 fun x => ∃ b, x = .bool b ∧ R b δ1
theorem dn_bool {K : PySem.W.Frag} {G : Hp} {v : V} {b : Bool} (h : Dn K G v (.bool b)) : v = .bl b := by cases h; rfl
theorem dn_int {K : PySem.W.Frag} {G : Hp} {v : V} {b : Int} (h : Dn K G v (.int b)) : v = .int b := by cases h; rfl
theorem dn_str {K : PySem.W.Frag} {G : Hp} {v : V} {b : Str} (h : Dn K G v (.str b)) : v = .str b := by cases h; rfl
theorem dn_none {K : PySem.W.Frag} {G : Hp} {v : V} (h : Dn K G v .none) : v = .non := by cases h; rfl
theorem bor_bool {K : PySem.W.Frag} {G H : Hp} {v : V} {b : Bool} (h : Bor K G H v (.bool b)) : v = .bl b := by
  rcases h with h | ⟨_, _, _, _, e, _⟩
  · exact dn_bool h
  · cases e
theorem bor_int {K : PySem.W.Frag} {G H : Hp} {v : V} {b : Int} (h : Bor K G H v (.int b)) : v = .int b := by
  rcases h with h | ⟨_, _, _, _, e, _⟩
  · exact dn_int h
  · cases e
theorem bor_str {K : PySem.W.Frag} {G H : Hp} {v : V} {b : Str} (h : Bor K G H v (.str b)) : v = .str b := by
  rcases h with h | ⟨_, _, _, _, e, _⟩
  · exact dn_str h
  · cases e
theorem bor_none {K : PySem.W.Frag} {G H : Hp} {v : V} (h : Bor K G H v .none) : v = .non := by
  rcases h with h | ⟨_, _, _, _, e, _⟩
  · exact dn_none h
  · cases e
theorem bor_tup {K : PySem.W.Frag} {G H : Hp} {v : V} {ds : List PyData} (h : Bor K G H v (.tuple ds)) : ∃ a vs, v = .ref a ∧ SqT K G a vs ∧ DnL K G vs ds := by
  rcases h with h | ⟨_, _, _, _, e, _⟩
  · cases h with | tup h t => exact ⟨_, _, rfl, h.sq, t⟩
  · cases e
theorem bor_tupS {K : PySem.W.Frag} {G H : Hp} {v : V} {ds : List PyData} (h : Bor K G H v (.tuple ds)) : ∃ a vs, v = .ref a ∧ TupAt G a vs ∧ DnL K G vs ds := by
  rcases h with h | ⟨_, _, _, _, e, _⟩
  · cases h with | tup h t => exact ⟨_, _, rfl, h, t⟩
  · cases e
theorem bor_lst {K : PySem.W.Frag} {B G H : Hp} {δ : DS} {σ : L2.St} {v : V} {ds : List PyData} (R : Rel K B G δ σ H) (h : Bor K G H v (.list ds)) : ∃ a vs, v = .ref a ∧ H a = some (.lst vs) ∧ DnL K G vs ds := by
  rcases h with h | ⟨a, vs, xs, rfl, e, q, t⟩
  · cases h with | lst h t => exact ⟨_, _, rfl, R.sg _ _ h, t⟩
  · cases e; exact ⟨a, vs, rfl, q, t⟩
theorem b_up {w : DE} {K : PySem.W.Frag} {σ : L2.St} {H : Hp} {Q : Bool → Hp → Prop} (h : upT K (wB w) σ H Q) : up K w σ H fun x H1 => ∃ c, x = .bl c ∧ Q c H1 := by
  obtain ⟨B, G, δ, R, rel, hw, k⟩ := h
  refine ⟨B, G, δ, _, rel, hw, fun v H1 G1 o1 δ1 r1 s1 rel1 ok1 => ?_⟩
  obtain ⟨x, ⟨b, rfl, q⟩, b1⟩ := use_ok rel1 ok1 r1
  exact ⟨b, bor_bool b1, k b H1 G1 _ q s1 rel1⟩
theorem jt_val {w : DE} (h : JE X e w) (he : ∀ whole, isTrue e X.env whole = (do let v ← whole; standAt e.pos; holding [v] (truthy v)) := by intro _; rfl) : JT X e (wB w) :=
  pt_le (pt_val h he) fun _ _ _ _ _ _ h => b_up h
theorem jt_cmp {p : P2} {op : CmpOp} {wa wb : DE} (ho : OpD X (compareOp op) p) (ha : JE X a wa) (hb : JE X b wb) (hm : behindInMarks op b = false := by rfl) : JT X (.Compare a [op] [b] pos) (wB (wOp p wa wb)) :=
  pt_le (pt_cmpR ho ha hb hm) fun _ _ _ _ _ _ h => by
    have h2 := b_up h
    exact op_up h2
def wChain (p q : P2) (wa wb wc : DE) : DE := fun δ R => wa δ fun o1 δ1 => wb δ1 fun o2 δ2 => use o1 δ2 fun x => use o2 δ2 fun y => p x y fun z => ∃ k, z = .bool k ∧
  if k = true then wc δ2 fun o3 δ3 => use o2 δ3 fun y => use o3 δ3 fun w => q y w fun z => R (.d z) δ3 else R (.d (.bool false)) δ2
theorem chain_up {p q : P2} {wa wb wc : DE} {K : PySem.W.Frag} {σ : L2.St} {H : Hp} {Q : VK} (h : up K (wChain p q wa wb wc) σ H Q) : tChain (rOf K p) (rOf K q) (up K wa) (up K wb) (up K wc) σ H Q := by
  obtain ⟨B, G, δ, R, rel, hw, k⟩ := h
  refine ⟨B, G, δ, _, rel, hw, fun v H1 G1 o1 δ1 r1 s1 rel1 ok1 => ⟨B, G1, δ1, _, rel1, r1, fun u H2 G2 o2 δ2 r2 s2 rel2 ok2 => ?_⟩⟩
  obtain ⟨x, q1, b1⟩ := use_ok rel2 (ok1.mono s2) r2
  obtain ⟨y, q2, b2⟩ := use_ok rel2 ok2 q1
  refine ⟨B, G2, δ2, σ, x, y, _, rel2, b1, b2, q2, fun v' H' G' z rz s3 rel3 dz => ?_⟩
  obtain ⟨kb, rfl, rz⟩ := rz
  refine ⟨kb, dn_bool dz, ?_⟩
  cases kb with
  | false =>
    rw [if_neg Bool.false_ne_true] at rz ⊢
    exact k _ H' G' _ _ rz (s1.trans (s2.trans s3)) rel3 (Dn.bl false)
  | true =>
    rw [if_pos rfl] at rz ⊢
    refine ⟨B, G', δ2, _, rel3, rz, fun w H4 G4 o3 δ4 r4 s4 rel4 ok4 => ?_⟩
    obtain ⟨y', q3, b3⟩ := use_ok rel4 (ok2.mono (s3.trans s4)) r4
    obtain ⟨w', q4, b4⟩ := use_ok rel4 ok4 q3
    exact ⟨B, G4, δ4, σ, y', w', _, rel4, b3, b4, q4, fun v' H' G5 z rz s5 rel5 dz => k v' H' G5 _ _ rz (s1.trans (s2.trans (s3.trans (s4.trans s5)))) rel5 dz⟩
theorem je_chain {p q : P2} {op op' : CmpOp} {wa wb wc : DE} (ho : OpD X (compareOp op) p) (ho' : OpD X (compareOp op') q) (ha : JE X a wa) (hb : JE X b wb) (hc : JE X c wc) (hm : lastMarks [op, op'] [b, c] = false := by rfl) : JE X (.Compare a [op, op'] [b, c] pos) (wChain p q wa wb wc) :=
  pe_le (pe_chain ho ho' ha hb hc (hm := hm)) fun _ _ _ _ _ _ h => chain_up h
theorem jt_chain {p q : P2} {op op' : CmpOp} {wa wb wc : DE} (ho : OpD X (compareOp op) p) (ho' : OpD X (compareOp op') q) (ha : JE X a wa) (hb : JE X b wb) (hc : JE X c wc) (hm : lastMarks [op, op'] [b, c] = false := by rfl) : JT X (.Compare a [op, op'] [b, c] pos) (wB (wChain p q wa wb wc)) :=
  pt_le (pt_chain ho ho' ha hb hc (hm := hm)) fun _ _ _ _ _ _ h => by
    have h2 := b_up h
    exact chain_up h2

variable {rest : List Expr}
def wAnd (t u : DT) : DT := fun δ R => t δ fun k δ1 => if k = true then u δ1 R else R false δ1
def wOr (t u : DT) : DT := fun δ R => t δ fun k δ1 => if k = true then R true δ1 else u δ1 R
def wNot (t : DT) : DT := fun δ R => t δ fun k δ1 => R (!k) δ1
theorem jw_and1 {t : DT} (h : JT X a t) : JW X (.BoolOp .And [a] pos) t := pw_and1 h
theorem jw_or1 {t : DT} (h : JT X a t) : JW X (.BoolOp .Or [a] pos) t := pw_or1 h
theorem jw_and {t u : DT} (ha : JT X a t) (hb : JW X (.BoolOp .And (b :: rest) pos) u) : JW X (.BoolOp .And (a :: b :: rest) pos) (wAnd t u) :=
  pw_le (pw_and ha hb) fun pins s σ H Q I ⟨B, G, δ, R, rel, hw, k⟩ => ⟨B, G, δ, _, rel, hw, fun c H1 G1 δ1 r1 s1 rel1 => by
    cases c with
    | true => rw [if_pos rfl] at r1 ⊢; exact ⟨B, G1, δ1, _, rel1, r1, fun b H2 G2 δ2 r2 s2 rel2 => k b H2 G2 δ2 r2 (s1.trans s2) rel2⟩
    | false => rw [if_neg Bool.false_ne_true] at r1 ⊢; exact k false H1 G1 δ1 r1 s1 rel1⟩
theorem jw_or {t u : DT} (ha : JT X a t) (hb : JW X (.BoolOp .Or (b :: rest) pos) u) : JW X (.BoolOp .Or (a :: b :: rest) pos) (wOr t u) :=
  pw_le (pw_or ha hb) fun pins s σ H Q I ⟨B, G, δ, R, rel, hw, k⟩ => ⟨B, G, δ, _, rel, hw, fun c H1 G1 δ1 r1 s1 rel1 => by
    cases c with
    | false => rw [if_neg Bool.false_ne_true] at r1 ⊢; exact ⟨B, G1, δ1, _, rel1, r1, fun b H2 G2 δ2 r2 s2 rel2 => k b H2 G2 δ2 r2 (s1.trans s2) rel2⟩
    | true => rw [if_pos rfl] at r1 ⊢; exact k true H1 G1 δ1 r1 s1 rel1⟩
theorem jt_w {t : DT} (h : JW X e t) : JT X e t := PW.pt h
theorem jt_not {t : DT} (h : JT X a t) : JT X (.UnaryOp .Not a pos) (wNot t) :=
  pt_le (pt_not h) fun pins s σ H Q I ⟨B, G, δ, R, rel, hw, k⟩ => ⟨B, G, δ, _, rel, hw, fun c H1 G1 δ1 r1 s1 rel1 => k (!c) H1 G1 δ1 r1 s1 rel1⟩
def wAndV (w u : DE) : DE := fun δ R => w δ fun o δ1 => use o δ1 fun x => ∃ k, x = .bool k ∧ if k = true then u δ1 R else R (.d (.bool false)) δ1
def wOrV (w u : DE) : DE := fun δ R => w δ fun o δ1 => use o δ1 fun x => ∃ k, x = .bool k ∧ if k = true then R (.d (.bool true)) δ1 else u δ1 R
def wNotV (w : DE) : DE := fun δ R => w δ fun o δ1 => use o δ1 fun x => ∃ k, x = .bool k ∧ R (.d (.bool (!k))) δ1
theorem je_one {op} {w : DE} (h : JE X a w) : JE X (.BoolOp op [a] pos) w := pe_one h
theorem je_and {w u : DE} (ha : JE X a w) (hb : JE X (.BoolOp .And (b :: rest) pos) u) : JE X (.BoolOp .And (a :: b :: rest) pos) (wAndV w u) :=
  pe_le (pe_and ha hb) fun pins s σ H Q I ⟨B, G, δ, R, rel, hw, k⟩ => ⟨B, G, δ, _, rel, hw, fun v H1 G1 o δ1 r1 s1 rel1 ok1 => by
    obtain ⟨x, ⟨c, rfl, q⟩, b1⟩ := use_ok rel1 ok1 r1
    refine ⟨c, bor_bool b1, ?_⟩
    cases c with
    | true => rw [if_pos rfl] at q ⊢; exact ⟨B, G1, δ1, _, rel1, q, fun b H2 G2 o2 δ2 r2 s2 rel2 ok2 => k b H2 G2 o2 δ2 r2 (s1.trans s2) rel2 ok2⟩
    | false => rw [if_neg Bool.false_ne_true] at q ⊢; exact k _ H1 G1 _ δ1 q s1 rel1 (Dn.bl false)⟩
theorem je_not {w : DE} (h : JE X a w) : JE X (.UnaryOp .Not a pos) (wNotV w) :=
  pe_le (pe_not h) fun pins s σ H Q I ⟨B, G, δ, R, rel, hw, k⟩ => ⟨B, G, δ, _, rel, hw, fun v H1 G1 o δ1 r1 s1 rel1 ok1 => by
    obtain ⟨x, ⟨c, rfl, q⟩, b1⟩ := use_ok rel1 ok1 r1
    exact ⟨c, bor_bool b1, k _ H1 G1 _ δ1 q s1 rel1 (Dn.bl _)⟩⟩
def wIfE (t : DT) (wa wb : DE) : DE := fun δ R => t δ fun k δ1 => if k = true then wa δ1 R else wb δ1 R
theorem je_ifE {t : DT} {wa wb : DE} (hc : JT X c t) (ha : JE X a wa) (hb : JE X b wb) : JE X (.IfExp c a b pos) (wIfE t wa wb) :=
  pe_le (pe_ifExp hc ha hb) fun pins s σ H Q I ⟨B, G, δ, R, rel, hw, k⟩ => ⟨B, G, δ, _, rel, hw, fun d H1 G1 δ1 r1 s1 rel1 => by
    cases d with
    | true => rw [if_pos rfl] at r1 ⊢; exact ⟨B, G1, δ1, _, rel1, r1, fun b H2 G2 o2 δ2 r2 s2 rel2 ok2 => k b H2 G2 o2 δ2 r2 (s1.trans s2) rel2 ok2⟩
    | false => rw [if_neg Bool.false_ne_true] at r1 ⊢; exact ⟨B, G1, δ1, _, rel1, r1, fun b H2 G2 o2 δ2 r2 s2 rel2 ok2 => k b H2 G2 o2 δ2 r2 (s1.trans s2) rel2 ok2⟩⟩
def pNeg (x : PyData) (R : PyData → Prop) : Prop := match x with
  | .int i => R (.int (-i))
  | _ => False
def wUn (p : PyData → (PyData → Prop) → Prop) (w : DE) : DE := fun δ R => w δ fun o δ1 => use o δ1 fun x => p x fun z => R (.d z) δ1
theorem je_neg {w : DE} (h : JE X a w) : JE X (.UnaryOp .USub a pos) (wUn pNeg w) :=
  pe_le (pe_un un_neg h) fun pins s σ H Q I ⟨B, G, δ, R, rel, hw, k⟩ => ⟨B, G, δ, _, rel, hw, fun v H1 G1 o δ1 r1 s1 rel1 ok1 => by
    obtain ⟨x, q, b1⟩ := use_ok rel1 ok1 r1
    cases x with
    | int i => exact ⟨i, bor_int b1, k _ H1 G1 _ δ1 q s1 rel1 (Dn.int _)⟩
    | _ => exact q.elim⟩
def wTup (w : DA) : DE := fun δ R => w δ fun os δ1 => lkL os δ1 fun xs δ2 => xs.length ≤ 1000 ∧ R (.d (.tuple xs)) δ2
def wLst (w : DA) : DL := fun δ R => w δ fun os δ1 => lkL os δ1 fun xs δ2 => xs.length ≤ 1000 ∧ R xs δ2
theorem le_line {n : Nat} (h : n ≤ 1000) : n ≤ sizeLine := by rw [sizeLine_eq]; omega
theorem je_tup {w : DA} {x1} (h : JA X es w) : JE X (.Tuple es x1 pos) (wTup w) :=
  pe_le (pe_tupC h) fun pins s σ H Q I ⟨B, G, δ, R, rel, hw, k⟩ => ⟨B, G, δ, _, rel, hw, fun vs H1 G1 os δ1 r1 s1 rel1 ok1 => by
    obtain ⟨G2, δ2, xs, ⟨hl, q⟩, s2, rel2, t⟩ := lkL_ok rel1 ok1 r1
    refine ⟨by rw [t.len]; exact le_line hl, fun p o hd np => ?_⟩
    obtain ⟨rel3, s3, at3⟩ := rel2.laidT (xs := vs) np hd
    exact k _ _ _ _ _ q (s1.trans (s2.trans s3)) rel3 (Dn.tup at3 (t.mono s3))⟩
theorem jl_lst {w : DA} (h : JA X es w) : JL X (.List es pos) (wLst w) :=
  pe_le (pe_lst h) fun pins s σ H Q I ⟨B, G, δ, R, rel, hw, k⟩ => ⟨B, G, δ, _, rel, hw, fun vs H1 G1 os δ1 r1 s1 rel1 ok1 => by
    obtain ⟨G2, δ2, xs, ⟨hl, q⟩, s2, rel2, t⟩ := lkL_ok rel1 ok1 r1
    refine ⟨by rw [t.len]; exact le_line hl, fun p np => ?_⟩
    exact k p vs _ _ _ _ q (s1.trans s2) (rel2.growB np) (rel2.freeB np) t⟩
def wDic : DE := fun δ R => R (.d (.dict [])) δ
def tDNewN : TE := fun _ H Q => ∀ p, H p = none → p ≠ sysModules → Q (.ref p) (upd H p (.dK []))
theorem pe_dnewN : PE X (.Dict [] [] pos) tDNewN := ⟨fun pins s σ H Q I h =>
  wpAny_Dict_empty ⟨.ref s.heap.objs.size, _, I.laid (a := s.heap.objs.size) (o := .dK []) (t' := s.toks) (fun _ _ q => Heap.get?_push_of_some _ q) (Nat.le_refl _) (dk_empty s.heap I.big), rfl, h _ (I.hok.fresh (Nat.le_refl _)) (by
    obtain ⟨mc, ⟨o, es, ep, ho, _⟩, _⟩ := I.ok.mod.nolimit
    have h1 := Heap.lt_size (I.bs _ _ ho).1
    intro e
    rw [e] at h1
    exact absurd h1 (by decide))⟩⟩
theorem je_dic : JE X (.Dict [] [] pos) wDic :=
  pe_le pe_dnewN fun pins s σ H Q I ⟨B, G, δ, R, rel, hw, k⟩ => fun p np n1 => by
    obtain ⟨rel3, s3⟩ := rel.laid (o := .dK []) np
    exact k _ _ _ _ _ hw s3 rel3 (Dn.dic upd_same n1)
def rOfN (K : PySem.W.Frag) (p : PN) : List V → Hp → VK → Prop := fun vs H Q => ∃ B G δ σ ds R, Rel K B G δ σ H ∧ BorL K G H vs ds ∧ p ds R ∧ ∀ v H' G' z, R z → Same G G' → Rel K B G' δ σ H' → Dn K G' v z → Q v H'
abbrev CallD (X : Cx) (f : Value) (p : PN) : Prop := CallR X f (rOfN X.K p)
def wFn (p : PN) (w : DA) : DE := fun δ R => w δ fun os δ1 => useL os δ1 fun xs => p xs fun z => R (.d z) δ1
theorem fn_up {p : PN} {w : DA} {K : PySem.W.Frag} {σ : L2.St} {H : Hp} {Q : VK} (h : up K (wFn p w) σ H Q) : tCB (rOfN K p) (upA K w) σ H Q := by
  obtain ⟨B, G, δ, R, rel, hw, k⟩ := h
  refine ⟨B, G, δ, _, rel, hw, fun vs H1 G1 os δ1 r1 s1 rel1 ok1 => ?_⟩
  obtain ⟨xs, q, b⟩ := useL_ok rel1 ok1 r1
  exact ⟨B, G1, δ1, σ, xs, _, rel1, b, q, fun v H' G' z rz s2 rel2 dz => k v H' G' _ _ rz (s1.trans s2) rel2 dz⟩
theorem je_fn {p : PN} {w : DA} {id : String} {x : Str} {px : Pos} (hc : CallD X (.builtin id) p) (hg : Gl X x) (hm : X.mg x = none) (hv : bootBuiltins x = some (.builtin id)) (ha : JA X (e :: es) w) (hn : x ≠ "__name__" := by decide) (hdb : (x == ("__debug__" : Str)) = false := by decide)
    (he : starEach (e :: es) X.env = (false, eval e X.env) :: starEach es X.env := by rfl) (hpl : (backTo pos (starEach es X.env)).any (·.1) = false := by rfl) : JE X (.Call (.Name x px) (e :: es) [] pos) (wFn p w) :=
  pe_le (pe_callB hc hg hm hv ha hn hdb he hpl) fun _ _ _ _ _ _ h => fn_up h
theorem je_ty {p : PN} {w : DA} {T : String} {x : Str} {px : Pos} (hc : CallD X (.type T) p) (hg : Gl X x) (hm : X.mg x = none) (hv : bootBuiltins x = some (.type T)) (ha : JA X (e :: es) w) (hn : x ≠ "__name__" := by decide) (hdb : (x == ("__debug__" : Str)) = false := by decide)
    (he : starEach (e :: es) X.env = (false, eval e X.env) :: starEach es X.env := by rfl) (hpl : (backTo pos (starEach es X.env)).any (·.1) = false := by rfl) : JE X (.Call (.Name x px) (e :: es) [] pos) (wFn p w) :=
  pe_le (pe_callTy hc hg hm hv ha hn hdb he hpl) fun _ _ _ _ _ _ h => fn_up h
def wFnL (p : List PyData → (List PyData → Prop) → Prop) (w : DA) : DL := fun δ R => w δ fun os δ1 => useL os δ1 fun xs => p xs fun z => R z δ1
abbrev P2L := PyData → PyData → (List PyData → Prop) → Prop
def rOfL (K : PySem.W.Frag) (p : P2L) : R2 := fun x y H Q => ∃ B G δ σ dx dy R, Rel K B G δ σ H ∧ Bor K G H x dx ∧ Bor K G H y dy ∧ p dx dy R ∧ ∀ a ws H' G' z, R z → Same G G' → Rel K (upd B a (.lst ws)) G' δ σ H' → B a = none → DnL K G' ws z → Q (.ref a) H'
abbrev OpDL (X : Cx) (f : Value → Value → Sem Value) (p : P2L) : Prop := OpR X f (rOfL X.K p)
def wOpL (p : P2L) (wa wb : DE) : DL := fun δ R => wa δ fun o1 δ1 => wb δ1 fun o2 δ2 => use o1 δ2 fun x => use o2 δ2 fun y => p x y fun z => R z δ2
theorem opL_up {p : P2L} {wa wb : DE} {K : PySem.W.Frag} {σ : L2.St} {H : Hp} {Q : VK} (h : upL K (wOpL p wa wb) σ H Q) : tOp (rOfL K p) (up K wa) (up K wb) σ H Q := by
  obtain ⟨B, G, δ, R, rel, hw, k⟩ := h
  refine ⟨B, G, δ, _, rel, hw, fun v H1 G1 o1 δ1 r1 s1 rel1 ok1 => ⟨B, G1, δ1, _, rel1, r1, fun u H2 G2 o2 δ2 r2 s2 rel2 ok2 => ?_⟩⟩
  obtain ⟨x, q1, b1⟩ := use_ok rel2 (ok1.mono s2) r2
  obtain ⟨y, q2, b2⟩ := use_ok rel2 ok2 q1
  exact ⟨B, G2, δ2, σ, x, y, _, rel2, b1, b2, q2, fun a ws H' G' z rz s3 rel3 hB dz => k a ws H' G' _ _ rz (s1.trans (s2.trans s3)) rel3 hB dz⟩
theorem jl_op {p : P2L} {op : Operator} {wa wb : DE} (ho : OpDL X (binaryOp op) p) (ha : JE X a wa) (hb : JE X b wb) : JL X (.BinOp a op b pos) (wOpL p wa wb) :=
  pe_le (pe_op ho ha hb) fun _ _ _ _ _ _ h => opL_up h
abbrev IxD (X : Cx) (p : P2) : Prop := IxR X (rOf X.K p)
theorem je_ix {p : P2} {wa wb : DE} (hr : IxD X p) (ha : JE X a wa) (hb : JE X b wb) (hs : PlainIx b) : JE X (.Subscript a b pos) (wOp p wa wb) :=
  pe_le (pe_ix hr ha hb hs) fun _ _ _ _ _ _ h => op_up h
abbrev DO := DS → (Option Int → DS → Prop) → Prop
def upO (K : PySem.W.Frag) (w : DO) : TO := fun σ H Q => ∃ B G δ R, Rel K B G δ σ H ∧ w δ R ∧ ∀ i H' G' δ', R i δ' → Same G G' → Rel K B G' δ' σ H' → Q i H'
abbrev JO (X : Cx) (e : Option Expr) (w : DO) : Prop := PO X e (upO X.K w)
def wNoP : DO := fun δ R => R none δ
def wPart (w : DE) : DO := fun δ R => w δ fun o δ1 => use o δ1 fun x => ∃ i, x = .int i ∧ R (some i) δ1
theorem po_le {e : Option Expr} {t t' : TO} (h : PO X e t) (l : ∀ pins s σ H Q, Inv X pins σ H s → t' σ H Q → t σ H Q) : PO X e t' := ⟨fun pins s σ H Q I q => h.run pins s σ H Q I (l pins s σ H Q I q)⟩
theorem jo_none : JO X none wNoP := po_le po_none fun pins s σ H Q I ⟨B, G, δ, R, rel, hw, k⟩ => k none H G δ hw (Same.refl _) rel
theorem jo_some {w : DE} (h : JE X e w) : JO X (some e) (wPart w) := po_le (po_some h) fun pins s σ H Q I ⟨B, G, δ, R, rel, hw, k⟩ => ⟨B, G, δ, _, rel, hw, fun v H1 G1 o δ1 r1 s1 rel1 ok1 => by
  obtain ⟨x, ⟨i, rfl, q⟩, b⟩ := use_ok rel1 ok1 r1
  exact ⟨i, bor_int b, k _ H1 G1 δ1 q s1 rel1⟩⟩
abbrev P3 := PyData → Option Int → Option Int → (PyData → Prop) → Prop
def rOfS (K : PySem.W.Frag) (p : P3) : V → Option Int → Option Int → Hp → VK → Prop := fun x lo hi H Q => ∃ B G δ σ dx R, Rel K B G δ σ H ∧ Bor K G H x dx ∧ p dx lo hi R ∧ ∀ v H' G' z, R z → Same G G' → Rel K B G' δ σ H' → Dn K G' v z → Q v H'
def wSl (p : P3) (w : DE) (l h : DO) : DE := fun δ R => w δ fun o δ1 => l δ1 fun i δ2 => h δ2 fun j δ3 => use o δ3 fun x => p x i j fun z => R (.d z) δ3
theorem je_sl {p : P3} {w : DE} {l h : DO} {lo hi : Option Expr} {p2 : Pos} (hr : SlR X (rOfS X.K p)) (he : JE X e w) (hl : JO X lo l) (hh : JO X hi h) : JE X (.Subscript e (.Slice lo hi none p2) pos) (wSl p w l h) :=
  pe_le (pe_slice hr he hl hh) fun pins s σ H Q I ⟨B, G, δ, R, rel, hw, k⟩ => ⟨B, G, δ, _, rel, hw, fun v H1 G1 o δ1 r1 s1 rel1 ok1 => ⟨B, G1, δ1, _, rel1, r1, fun i H2 G2 δ2 r2 s2 rel2 => ⟨B, G2, δ2, _, rel2, r2, fun j H3 G3 δ3 r3 s3 rel3 => by
    obtain ⟨x, q, b⟩ := use_ok rel3 (ok1.mono (s2.trans s3)) r3
    exact ⟨B, G3, δ3, σ, x, _, rel3, b, q, fun v' H' G' z rz s4 rel4 dz => k v' H' G' _ _ rz (s1.trans (s2.trans (s3.trans s4))) rel4 dz⟩⟩⟩⟩
end
end DL
set_option Elab.async false
set_option linter.all false
set_option maxRecDepth 100000
set_option maxHeartbeats 4000000
namespace DL
open PySem PySem.Spec PyProof.Rows L2
variable [Tb]

mutual
theorem Dn.dp {K : PySem.W.Frag} {H : Hp} : ∀ (d : PyData) {v : V}, d.hasDict = false → Dn K H v d → Dp K H v d
  | .none, _, _, h => by cases h; exact .non
  | .bool b, _, _, h => by cases h; exact .bl b
  | .int i, _, _, h => by cases h; exact .int i
  | .str x, _, _, h => by cases h; exact .str x
  | .list ds, _, z, h => by cases h with | lst h t => exact .lst (SqL.of h) (DnL.dp ds (by simpa [PyData.hasDict] using z) t)
  | .tuple ds, _, z, h => by cases h with | tup h t => exact .tup h.sq (DnL.dp ds (by simpa [PyData.hasDict] using z) t)
  | .dict kvs, _, z, h => by simp [PyData.hasDict] at z
theorem DnL.dp {K : PySem.W.Frag} {H : Hp} : ∀ (ds : List PyData) {vs : List V}, PyData.hasDictAll ds = false → DnL K H vs ds → DpAll K H vs ds
  | [], _, _, h => by cases h; exact .nil
  | d :: ds, _, z, h => by
    have z' : d.hasDict = false ∧ PyData.hasDictAll ds = false := by simpa [PyData.hasDictAll] using z
    cases h with | cons a b => exact .cons (Dn.dp d z'.1 a) (DnL.dp ds z'.2 b)
end
theorem noDict_of_shaped {d : PyData} (h : SeqAt.shaped d = true) : d.hasDict = false := PyData.hasDict_of_canLay d (SeqAt.canLay_of_shaped h)

section
variable {X : Cx}
abbrev ints2 (f : Int → Int → (PyData → Prop) → Prop) : P2 := fun x y R => match x, y with
  | .int i, .int j => f i j R
  | _, _ => False
theorem opd_ints {f : Value → Value → Sem Value} {C : Int → Int → Prop} {g : Int → Int → Int} {p : Int → Int → (PyData → Prop) → Prop} (h : OpR X f (rI C fun i j => .int (g i j))) (hp : ∀ i j R, p i j R → C i j ∧ R (.int (g i j))) : OpD X f (ints2 p) := by
  intro pins s σ H x y v u Q I rx ry ⟨B, G, δ, σ', dx, dy, R, rel, bx, by', q, k⟩
  cases dx <;> cases dy <;> first | exact False.elim q | skip
  obtain ⟨c, r⟩ := hp _ _ _ q
  exact h pins s σ H x y v u Q I rx ry ⟨_, _, bor_int bx, bor_int by', c, k _ H G _ r (Same.refl _) rel (Dn.int _)⟩
theorem opd_bools {f : Value → Value → Sem Value} {g : Int → Int → Bool} (h : OpR X f (rI0 fun i j => .bl (g i j))) : OpD X f (ints2 fun i j R => R (.bool (g i j))) := by
  intro pins s σ H x y v u Q I rx ry ⟨B, G, δ, σ', dx, dy, R, rel, bx, by', q, k⟩
  cases dx <;> cases dy <;> first | exact False.elim q | skip
  exact h pins s σ H x y v u Q I rx ry ⟨_, _, bor_int bx, bor_int by', k _ H G _ q (Same.refl _) rel (Dn.bl _)⟩

def pSub : P2 := ints2 fun i j R => R (.int (i - j))
def pMul : P2 := fun x y R => match x, y with
  | .int i, .int j => (CMul i j ∨ CMulW i j) ∧ R (.int (i * j))
  | .list xs, .int k => 0 ≤ k ∧ xs.length * k.toNat ≤ 1000000 ∧ k < 1000000 ∧ R (.list (List.replicate k.toNat xs).flatten)
  | _, _ => False
def pDiv : P2 := ints2 fun i j R => (0 < j ∧ j.natAbs.log2 < 9000) ∧ R (.int (i / j))
def pMod : P2 := ints2 fun i j R => 0 < j ∧ R (.int (i % j))
def pPow : P2 := ints2 fun i j R => CPow i j ∧ R (.int (i ^ j.toNat))
def pShl : P2 := ints2 fun i j R => CPow i j ∧ R (.int (i * 2 ^ j.toNat))
def pAnd : P2 := ints2 fun i j R => R (.int (Builtin.bitAnd i j))
def pOr : P2 := ints2 fun i j R => R (.int (Builtin.bitOr i j))
def pLt : P2 := fun x y R => match x, y with
  | .int i, .int j => R (.bool (decide (i < j)))
  | _, _ => False
def pLe : P2 := ints2 fun i j R => R (.bool (decide (i ≤ j)))
def pGt : P2 := ints2 fun i j R => R (.bool (decide (j < i)))
def pGe : P2 := ints2 fun i j R => R (.bool (decide (j ≤ i)))
def pAdd : P2 := fun x y R => match x, y with
  | .int i, .int j => R (.int (i + j))
  | .str a, .str b => a.length + b.length ≤ 1000000 ∧ R (.str (a ++ b))
  | .tuple xs, .tuple ys => xs.length + ys.length ≤ 1000000 ∧ R (.tuple (xs ++ ys))
  | .list xs, .list ys => xs.length + ys.length ≤ 1000000 ∧ R (.list (xs ++ ys))
  | _, _ => False
theorem million {n : Nat} (h : n ≤ 1000000) : n ≤ sizeLine := by rw [sizeLine_eq]; omega
theorem d_div : OpD X (binaryOp .FloorDiv) pDiv := opd_ints op_fdivW fun i j R h => h
theorem d_mod : OpD X (binaryOp .Mod) pMod := opd_ints op_mod fun i j R h => h
theorem d_pow : OpD X (binaryOp .Pow) pPow := opd_ints op_pow fun i j R h => h
theorem d_lt : OpD X (compareOp .Lt) pLt := by
  intro pins s σ H x y v u Q I rx ry ⟨B, G, δ, σ', dx, dy, R, rel, bx, by', q, k⟩
  cases dx <;> cases dy <;> first | exact False.elim q | skip
  exact op_lt pins s σ H x y v u Q I rx ry ⟨_, _, bor_int bx, bor_int by', k _ H G _ q (Same.refl _) rel (Dn.bl _)⟩
theorem d_le : OpD X (compareOp .LtE) pLe := opd_bools op_le
theorem d_ge : OpD X (compareOp .GtE) pGe := opd_bools op_ge
theorem DnL.nil_iff {K : PySem.W.Frag} {G : Hp} {vs : List V} {ds : List PyData} (t : DnL K G vs ds) : vs = [] ↔ ds = [] := by
  cases t with
  | nil => simp
  | cons a b => simp
theorem d_add : OpD X (binaryOp .Add) pAdd := by
  intro pins s σ H x y v u Q I rx ry ⟨B, G, δ, σ', dx, dy, R, rel, bx, by', q, k⟩
  cases dx <;> cases dy <;> first | exact False.elim q | skip
  · exact op_add pins s σ H x y v u Q I rx ry ⟨_, _, bor_int bx, bor_int by', k _ H G _ q (Same.refl _) rel (Dn.int _)⟩
  · exact op_add_str pins s σ H x y v u Q I rx ry ⟨_, _, bor_str bx, bor_str by', million q.1, k _ H G _ q.2 (Same.refl _) rel (Dn.str _)⟩
  · obtain ⟨a, xs, rfl, ha, ta⟩ := bor_lst rel bx
    obtain ⟨b, ys, rfl, hb, tb⟩ := bor_lst rel by'
    refine op_cat pins s σ H _ _ v u Q I rx ry ⟨a, b, xs, ys, rfl, rfl, ha, hb, by rw [ta.len, tb.len]; exact million q.1, fun p np => ?_⟩
    obtain ⟨rel3, s3⟩ := rel.laid (o := .lst (xs ++ ys)) np
    exact k _ _ _ _ q.2 s3 rel3 (Dn.lst upd_same ((ta.app tb).mono s3))
  · obtain ⟨a, xs, rfl, ha, ta⟩ := bor_tupS bx
    obtain ⟨b, ys, rfl, hb, tb⟩ := bor_tupS by'
    refine op_catC pins s σ H _ _ v u Q I rx ry ⟨a, b, xs, ys, rfl, rfl, sqT_mono rel.sg ha.sq, sqT_mono rel.sg hb.sq, by rw [ta.len, tb.len]; exact million q.1, fun e => ?_, fun e e2 => ?_, fun e1 e2 p o hd np => ?_⟩
    · have e' := ta.nil_iff.mp e
      subst e e'
      exact k _ H G _ q.2 (Same.refl _) rel (Dn.tup hb (by simpa using tb))
    · have e' := tb.nil_iff.mp e2
      subst e2 e'
      exact k _ H G _ q.2 (Same.refl _) rel (Dn.tup ha (by simpa using ta))
    · obtain ⟨rel3, s3, at3⟩ := rel.laidT (xs := xs ++ ys) np hd
      exact k _ _ _ _ q.2 s3 rel3 (Dn.tup at3 ((ta.app tb).mono s3))
theorem DnL.rep {K : PySem.W.Frag} {G : Hp} {vs : List V} {ds : List PyData} (t : DnL K G vs ds) : ∀ n : Nat, DnL K G (List.replicate n vs).flatten (List.replicate n ds).flatten
  | 0 => .nil
  | n + 1 => by
    rw [List.replicate_succ, List.replicate_succ, List.flatten_cons, List.flatten_cons]
    exact t.app (DnL.rep t n)
theorem d_mul : OpD X (binaryOp .Mult) pMul := by
  intro pins s σ H x y v u Q I rx ry ⟨B, G, δ, σ', dx, dy, R, rel, bx, by', q, k⟩
  cases dx <;> cases dy <;> first | exact False.elim q | skip
  · rcases q.1 with c | c
    · exact op_mul pins s σ H x y v u Q I rx ry ⟨_, _, bor_int bx, bor_int by', c, k _ H G _ q.2 (Same.refl _) rel (Dn.int _)⟩
    · exact op_mulW pins s σ H x y v u Q I rx ry ⟨_, _, bor_int bx, bor_int by', c, k _ H G _ q.2 (Same.refl _) rel (Dn.int _)⟩
  · obtain ⟨a, xs, rfl, ha, ta⟩ := bor_lst rel bx
    obtain ⟨q0, q1, q2, q3⟩ := q
    refine op_rep pins s σ H _ _ v u Q I rx ry ⟨a, _, xs, rfl, bor_int by', ha, by omega, by omega, by rw [ta.len]; exact million q1, fun p np => ?_⟩
    obtain ⟨rel3, s3⟩ := rel.laid (o := .lst _) np
    exact k _ _ _ _ q3 s3 rel3 (Dn.lst upd_same ((ta.rep _).mono s3))
def pAddL : P2L := fun x y R => match x, y with
  | .list xs, .list ys => xs.length + ys.length ≤ 1000000 ∧ R (xs ++ ys)
  | _, _ => False
theorem d_addL : OpDL X (binaryOp .Add) pAddL := by
  intro pins s σ H x y v u Q I rx ry ⟨B, G, δ, σ', dx, dy, R, rel, bx, by', q, k⟩
  cases dx <;> cases dy <;> first | exact False.elim q | skip
  obtain ⟨a, xs, rfl, ha, ta⟩ := bor_lst rel bx
  obtain ⟨b, ys, rfl, hb, tb⟩ := bor_lst rel by'
  exact op_cat pins s σ H _ _ v u Q I rx ry ⟨a, b, xs, ys, rfl, rfl, ha, hb, by rw [ta.len, tb.len]; exact million q.1, fun p np => k p _ _ G _ q.2 (Same.refl _) (rel.growB np) (rel.freeB np) (ta.app tb)⟩
def pMulL : P2L := fun x y R => match x, y with
  | .list xs, .int k => 0 ≤ k ∧ xs.length * k.toNat ≤ 1000000 ∧ k < 1000000 ∧ R (List.replicate k.toNat xs).flatten
  | _, _ => False
def sc2 : PyData → PyData → Bool
  | .int _, .int _ => true
  | .str _, .str _ => true
  | .bool _, .bool _ => true
  | .none, .none => true
  | _, _ => false
def pEq : P2 := fun x y R => (sc2 x y = true ∨ SeqAt.shaped x = true ∧ SeqAt.shaped y = true) ∧ R (.bool (PyData.eqv x y))
def pNe : P2 := fun x y R => (sc2 x y = true ∨ SeqAt.shaped x = true ∧ SeqAt.shaped y = true) ∧ R (.bool (!PyData.eqv x y))
theorem sc2_eq {K : PySem.W.Frag} {G H : Hp} {x y : V} {dx dy : PyData} (h : sc2 dx dy = true) (bx : Bor K G H x dx) (by' : Bor K G H y dy) : scal x y = true ∧ decide (x = y) = PyData.eqv dx dy := by
  cases dx <;> cases dy <;> first | exact absurd h Bool.false_ne_true | skip
  · obtain rfl := bor_none bx
    obtain rfl := bor_none by'
    exact ⟨rfl, by simp [PyData.eqv]⟩
  · obtain rfl := bor_bool bx
    obtain rfl := bor_bool by'
    refine ⟨rfl, ?_⟩
    rw [dec_bl]; simp [PyData.eqv]
  · obtain rfl := bor_int bx
    obtain rfl := bor_int by'
    refine ⟨rfl, ?_⟩
    rw [dec_int]; simp [PyData.eqv]
  · obtain rfl := bor_str bx
    obtain rfl := bor_str by'
    refine ⟨rfl, ?_⟩
    rw [dec_str]; simp [PyData.eqv]
theorem d_eq (hu : X.A.units + 64 < cLine) : OpD X (compareOp .Eq) pEq := by
  intro pins s σ H x y v u Q I rx ry ⟨B, G, δ, σ', dx, dy, R, rel, bx, by', ⟨c, q⟩, k⟩
  rcases c with c | ⟨q1, q2⟩
  · obtain ⟨h1, h2⟩ := sc2_eq c bx by'
    refine op_eq pins s σ H x y v u Q I rx ry ⟨h1, ?_⟩
    rw [h2]
    exact k _ H G _ q (Same.refl _) rel (Dn.bl _)
  · exact op_eqD hu pins s σ H x y v u Q I rx ry ⟨dx, dy, Dn.dp _ (noDict_of_shaped q1) (bx.dn rel), Dn.dp _ (noDict_of_shaped q2) (by'.dn rel), q1, q2, k _ H G _ q (Same.refl _) rel (Dn.bl _)⟩
theorem d_ne (hu : X.A.units + 64 < cLine) : OpD X (compareOp .NotEq) pNe := by
  intro pins s σ H x y v u Q I rx ry ⟨B, G, δ, σ', dx, dy, R, rel, bx, by', ⟨c, q⟩, k⟩
  rcases c with c | ⟨q1, q2⟩
  · obtain ⟨h1, h2⟩ := sc2_eq c bx by'
    refine op_ne pins s σ H x y v u Q I rx ry ⟨h1, ?_⟩
    rw [h2]
    exact k _ H G _ q (Same.refl _) rel (Dn.bl _)
  · exact op_neD hu pins s σ H x y v u Q I rx ry ⟨dx, dy, Dn.dp _ (noDict_of_shaped q1) (bx.dn rel), Dn.dp _ (noDict_of_shaped q2) (by'.dn rel), q1, q2, k _ H G _ q (Same.refl _) rel (Dn.bl _)⟩
def isNone : PyData → Bool
  | .none => true
  | _ => false
def pIs : P2 := fun x y R => match x, y with
  | x, .none => R (.bool (isNone x))
  | .bool a, .bool b => R (.bool (decide (a = b)))
  | _, _ => False
def pIsNot : P2 := fun x y R => match x, y with
  | x, .none => R (.bool (!isNone x))
  | .bool a, .bool b => R (.bool (!decide (a = b)))
  | _, _ => False
theorem dn_non {K : PySem.W.Frag} {G : Hp} {v : V} {d : PyData} (h : Dn K G v d) : decide (v = V.non) = isNone d := by
  cases h <;> rfl
theorem d_is : OpD X (compareOp .Is) pIs := by
  intro pins s σ H x y v u Q I rx ry ⟨B, G, δ, σ', dx, dy, R, rel, bx, by', q, k⟩
  cases dy with
  | none =>
    refine op_isN pins s σ H x y v u Q I rx ry ⟨bor_none by', ?_⟩
    rw [dn_non (bx.dn rel)]
    have q' : R (.bool (isNone dx)) := by cases dx <;> exact q
    exact k _ H G _ q' (Same.refl _) rel (Dn.bl _)
  | bool b =>
    cases dx <;> first | exact False.elim q | skip
    exact op_isBl pins s σ H x y v u Q I rx ry ⟨_, _, bor_bool bx, bor_bool by', k _ H G _ q (Same.refl _) rel (Dn.bl _)⟩
  | _ => cases dx <;> exact False.elim q
theorem d_isnot : OpD X (compareOp .IsNot) pIsNot := by
  intro pins s σ H x y v u Q I rx ry ⟨B, G, δ, σ', dx, dy, R, rel, bx, by', q, k⟩
  cases dy with
  | none =>
    refine op_notN pins s σ H x y v u Q I rx ry ⟨bor_none by', ?_⟩
    rw [dn_non (bx.dn rel)]
    have q' : R (.bool (!isNone dx)) := by cases dx <;> exact q
    exact k _ H G _ q' (Same.refl _) rel (Dn.bl _)
  | bool b =>
    cases dx <;> first | exact False.elim q | skip
    exact op_notBl pins s σ H x y v u Q I rx ry ⟨_, _, bor_bool bx, bor_bool by', k _ H G _ q (Same.refl _) rel (Dn.bl _)⟩
  | _ => cases dx <;> exact False.elim q
def pIn : P2 := fun x y R => match y with
  | .list ds => SeqAt.shaped x = true ∧ SeqAt.shaped (.list ds) = true ∧ R (.bool (ds.any fun z => PyData.eqv z x))
  | .tuple ds => SeqAt.shaped x = true ∧ SeqAt.shaped (.tuple ds) = true ∧ R (.bool (ds.any fun z => PyData.eqv z x))
  | .str z => ∃ c : Nat, x = .str ⟨#[c]⟩ ∧ R (.bool (decide (c ∈ z.cps.toList)))
  | _ => False
def pNotIn : P2 := fun x y R => match y with
  | .list ds => SeqAt.shaped x = true ∧ SeqAt.shaped (.list ds) = true ∧ R (.bool (!ds.any fun z => PyData.eqv z x))
  | .tuple ds => SeqAt.shaped x = true ∧ SeqAt.shaped (.tuple ds) = true ∧ R (.bool (!ds.any fun z => PyData.eqv z x))
  | .str z => ∃ c : Nat, x = .str ⟨#[c]⟩ ∧ R (.bool (!decide (c ∈ z.cps.toList)))
  | _ => False
theorem d_in (hu : X.A.units + 65 < cLine) : OpD X (compareOp .In) pIn := by
  intro pins s σ H x y v u Q I rx ry ⟨B, G, δ, σ', dx, dy, R, rel, bx, by', q, k⟩
  cases dy with
  | list ds =>
    obtain ⟨q1, q2, q⟩ := q
    exact op_inD hu pins s σ H x y v u Q I rx ry ⟨dx, ds, Dn.dp _ (noDict_of_shaped q1) (bx.dn rel), Dn.dp _ (noDict_of_shaped q2) (by'.dn rel), q1, q2, k _ H G _ q (Same.refl _) rel (Dn.bl _)⟩
  | tuple ds =>
    obtain ⟨q1, q2, q⟩ := q
    obtain ⟨as, r1⟩ := Dp.reads I dx x v (Dn.dp _ (noDict_of_shaped q1) (bx.dn rel)) rx
    obtain ⟨bs, r2⟩ := Dp.reads I (.tuple ds) y u (Dn.dp _ (noDict_of_shaped q2) (by'.dn rel)) ry
    exact SeqAt.in_tuple_reads r2 r1 (by simpa [PyData.canLay0] using SeqAt.canLay_of_shaped q2) (SeqAt.canLay_of_shaped q1) (room_in_shaped q1 hu) ⟨.bl _, H, I, rfl, k _ H G _ q (Same.refl _) rel (Dn.bl _)⟩
  | str z =>
    obtain ⟨c, rfl, q⟩ := q
    exact op_in_sign pins s σ H x y v u Q I rx ry ⟨c, z, bor_str bx, bor_str by', k _ H G _ q (Same.refl _) rel (Dn.bl _)⟩
  | _ => exact False.elim q
theorem d_notIn (hu : X.A.units + 65 < cLine) : OpD X (compareOp .NotIn) pNotIn := by
  intro pins s σ H x y v u Q I rx ry ⟨B, G, δ, σ', dx, dy, R, rel, bx, by', q, k⟩
  cases dy with
  | list ds =>
    obtain ⟨q1, q2, q⟩ := q
    exact op_notInD hu pins s σ H x y v u Q I rx ry ⟨dx, ds, Dn.dp _ (noDict_of_shaped q1) (bx.dn rel), Dn.dp _ (noDict_of_shaped q2) (by'.dn rel), q1, q2, k _ H G _ q (Same.refl _) rel (Dn.bl _)⟩
  | tuple ds =>
    obtain ⟨q1, q2, q⟩ := q
    obtain ⟨as, r1⟩ := Dp.reads I dx x v (Dn.dp _ (noDict_of_shaped q1) (bx.dn rel)) rx
    obtain ⟨bs, r2⟩ := Dp.reads I (.tuple ds) y u (Dn.dp _ (noDict_of_shaped q2) (by'.dn rel)) ry
    exact SeqAt.notIn_tuple_reads r2 r1 (by simpa [PyData.canLay0] using SeqAt.canLay_of_shaped q2) (SeqAt.canLay_of_shaped q1) (room_in_shaped q1 hu) ⟨.bl _, H, I, rfl, k _ H G _ q (Same.refl _) rel (Dn.bl _)⟩
  | str z =>
    obtain ⟨c, rfl, q⟩ := q
    exact op_notIn_sign pins s σ H x y v u Q I rx ry ⟨c, z, bor_str bx, bor_str by', k _ H G _ q (Same.refl _) rel (Dn.bl _)⟩
  | _ => exact False.elim q
def pIx : P2 := fun x y R => match x, y with
  | .list ds, .int i => ∃ z, atI ds i = some z ∧ R z
  | .tuple ds, .int i => ∃ z, atI ds i = some z ∧ R z
  | .str z, .int i => z.length ≤ 1000000 ∧ ∃ c, atI z.cps.toList i = some c ∧ R (.str ⟨#[c]⟩)
  | _, _ => False
theorem DnL.atI {K : PySem.W.Frag} {G : Hp} {vs : List V} {ds : List PyData} {i : Int} {z : PyData} (t : DnL K G vs ds) (h : L2.atI ds i = some z) : ∃ v, L2.atI vs i = some v ∧ Dn K G v z := by
  unfold L2.atI at h ⊢
  rw [t.len]
  cases e : ixN ds.length i with
  | none => rw [e] at h; cases h
  | some j => rw [e] at h; exact t.get h
theorem d_ix : IxD X pIx := by
  have hor := @ix_seq X
  intro ev es pins s σ H x y v u Q I rx ry ⟨B, G, δ, σ', dx, dy, R, rel, bx, by', q, k⟩ hsub
  cases dx <;> cases dy <;> first | exact False.elim q | skip
  · obtain ⟨q1, c, e, q⟩ := q
    exact hor ev es pins s σ H x y v u Q I rx ry (.inr (.inr ⟨_, _, c, bor_str bx, bor_int by', million q1, e, k _ H G _ q (Same.refl _) rel (Dn.str _)⟩)) hsub
  · obtain ⟨a, xs, rfl, ha, ta⟩ := bor_lst rel bx
    obtain ⟨z, e, q⟩ := q
    obtain ⟨w, e2, dw⟩ := ta.atI e
    exact hor ev es pins s σ H _ y v u Q I rx ry (.inl ⟨a, xs, _, w, rfl, bor_int by', SqL.of ha, e2, k _ H G _ q (Same.refl _) rel dw⟩) hsub
  · obtain ⟨a, xs, rfl, ha, ta⟩ := bor_tup bx
    obtain ⟨z, e, q⟩ := q
    obtain ⟨w, e2, dw⟩ := ta.atI e
    exact hor ev es pins s σ H _ y v u Q I rx ry (.inr (.inl ⟨a, xs, _, w, rfl, bor_int by', sqT_mono rel.sg ha, e2, k _ H G _ q (Same.refl _) rel dw⟩)) hsub
def cutD {α : Type} (xs : List α) (lo hi : Option Int) : List α := (xs.drop (HT.sIx xs.length 0 lo)).take (HT.sIx xs.length xs.length hi - HT.sIx xs.length 0 lo)
def pSl : P3 := fun x lo hi R => match x with
  | .list ds => R (.list (cutD ds lo hi))
  | .tuple ds => R (.tuple (cutD ds lo hi))
  | .str z => z.length ≤ 1000000 ∧ R (.str (cutS z lo hi))
  | _ => False
theorem DnL.cut {K : PySem.W.Frag} {G : Hp} {vs : List V} {ds : List PyData} {lo hi : Option Int} (t : DnL K G vs ds) : DnL K G (cutV vs lo hi) (cutD ds lo hi) := by
  unfold cutV cutD
  rw [t.len]
  exact (t.drop _).take _
theorem cutD_whole {α : Type} {xs : List α} {lo hi : Option Int} (h1 : HT.sIx xs.length 0 lo = 0) (h2 : HT.sIx xs.length xs.length hi = xs.length) : cutD xs lo hi = xs := by
  unfold cutD
  rw [h1, h2]; simp
theorem d_sl : SlR X (rOfS X.K pSl) := by
  intro pins s σ H x v vl vu lo hi sl Q I rx hs pl pu ⟨B, G, δ, σ', dx, R, rel, bx, q, k⟩
  cases dx with
  | list ds =>
    obtain ⟨a, xs, rfl, ha, ta⟩ := bor_lst rel bx
    refine sl_list pins s σ H _ v vl vu lo hi sl Q I rx hs pl pu ⟨a, xs, rfl, SqL.of ha, fun p np => ?_⟩
    obtain ⟨rel3, s3⟩ := rel.laid (o := .lst (cutV xs lo hi)) np
    exact k _ _ _ _ q s3 rel3 (Dn.lst upd_same (ta.cut.mono s3))
  | tuple ds =>
    obtain ⟨a, xs, rfl, ha, ta⟩ := bor_tupS bx
    refine sl_tupC pins s σ H _ v vl vu lo hi sl Q I rx hs pl pu ⟨a, xs, rfl, sqT_mono rel.sg ha.sq, fun e => ?_, fun _ p o hd np => ?_⟩
    · have q' : R (.tuple (cutD ds lo hi)) := q
      rw [cutD_whole (by rw [← ta.len]; exact e.1) (by rw [← ta.len]; exact e.2)] at q'
      exact k _ H G _ q' (Same.refl _) rel (Dn.tup ha ta)
    · obtain ⟨rel3, s3, at3⟩ := rel.laidT (xs := cutV xs lo hi) np hd
      exact k _ _ _ _ q s3 rel3 (Dn.tup at3 (ta.cut.mono s3))
  | str z => exact sl_str pins s σ H x v vl vu lo hi sl Q I rx hs pl pu ⟨z, bor_str bx, million q.1, k _ H G _ q.2 (Same.refl _) rel (Dn.str _)⟩
  | _ => exact False.elim q
end
end DL
set_option Elab.async false
set_option linter.all false
set_option maxRecDepth 100000
set_option maxHeartbeats 4000000
namespace DL
open PySem PySem.Spec PyProof.Rows L2
variable [Tb]

section
variable {X : Cx}
theorem BorL.one {K : PySem.W.Frag} {G H : Hp} {vs : List V} {d : PyData} (h : BorL K G H vs [d]) : ∃ v, vs = [v] ∧ Bor K G H v d := by
  cases h with | cons a b => cases b; exact ⟨_, rfl, a⟩
theorem BorL.two {K : PySem.W.Frag} {G H : Hp} {vs : List V} {d e : PyData} (h : BorL K G H vs [d, e]) : ∃ v u, vs = [v, u] ∧ Bor K G H v d ∧ Bor K G H u e := by
  cases h with | cons a b => obtain ⟨u, rfl, c⟩ := b.one; exact ⟨_, _, rfl, a, c⟩
abbrev one (p : PyData → (PyData → Prop) → Prop) : PN := fun xs R => match xs with
  | [x] => p x R
  | _ => False
abbrev oneL (p : PyData → (List PyData → Prop) → Prop) : List PyData → (List PyData → Prop) → Prop := fun xs R => match xs with
  | [x] => p x R
  | _ => False
abbrev two (p : PyData → PyData → (PyData → Prop) → Prop) : PN := fun xs R => match xs with
  | [x, y] => p x y R
  | _ => False
def pLen : PN := one fun x R => match x with
  | .list ds => R (.int ds.length)
  | .tuple ds => R (.int ds.length)
  | .str z => z.length ≤ 1000000 ∧ R (.int z.length)
  | _ => False
theorem c_len : CallD X (.builtin "len") pLen := by
  intro pins s σ H vs us Q I r ⟨B, G, δ, σ', ds, R, rel, b, q, k⟩
  match ds, q with
  | [d], q =>
    obtain ⟨v, rfl, bd⟩ := b.one
    cases d with
    | list xs =>
      obtain ⟨a, ws, rfl, ha, ta⟩ := bor_lst rel bd
      exact call_len pins s σ H _ us Q I r ⟨_, _, rfl, .inl ⟨ws, SqL.of ha, ta.len.symm⟩, k _ H G _ q (Same.refl _) rel (Dn.int _)⟩
    | tuple xs =>
      obtain ⟨a, ws, rfl, ha, ta⟩ := bor_tup bd
      exact call_len pins s σ H _ us Q I r ⟨_, _, rfl, .inr ⟨ws, sqT_mono rel.sg ha, ta.len.symm⟩, k _ H G _ q (Same.refl _) rel (Dn.int _)⟩
    | str z =>
      obtain rfl := bor_str bd
      exact call_len pins s σ H _ us Q I r ⟨_, _, rfl, ⟨million q.1, rfl⟩, k _ H G _ q.2 (Same.refl _) rel (Dn.int _)⟩
    | _ => exact False.elim q
def pTupOf : PN := one fun x R => match x with
  | .list ds => R (.tuple ds)
  | .tuple ds => R (.tuple ds)
  | _ => False
theorem c_tup : CallD X (.type "tuple") pTupOf := by
  intro pins s σ H vs us Q I r ⟨B, G, δ, σ', ds, R, rel, b, q, k⟩
  match ds, q with
  | [d], q =>
    obtain ⟨v, rfl, bd⟩ := b.one
    cases d with
    | list xs =>
      obtain ⟨a, ws, rfl, ha, ta⟩ := bor_lst rel bd
      refine call_tupleC pins s σ H _ us Q I r ⟨a, ws, rfl, .inl ⟨SqL.of ha, fun p o hd np => ?_⟩⟩
      obtain ⟨rel3, s3, at3⟩ := rel.laidT (xs := ws) np hd
      exact k _ _ _ _ q s3 rel3 (Dn.tup at3 (ta.mono s3))
    | tuple xs =>
      obtain ⟨a, ws, rfl, ha, ta⟩ := bor_tupS bd
      exact call_tuple_of pins s σ H _ us Q I r ⟨a, ws, rfl, .inr ⟨sqT_mono rel.sg ha.sq, k _ H G _ q (Same.refl _) rel (Dn.tup ha ta)⟩⟩
    | _ => exact False.elim q
def pLstOf : List PyData → (List PyData → Prop) → Prop := oneL fun x R => match x with
  | .list ds => R ds
  | .tuple ds => R ds
  | _ => False
def pInt : PN := one fun x R => match x with
  | .int i => R (.int i)
  | .bool b => R (.int (if b then 1 else 0))
  | .str z => ∃ n, PySem.intText? z = some n ∧ z.length ≤ 640 ∧ R (.int n)
  | _ => False
theorem c_int : CallD X (.type "int") pInt := by
  intro pins s σ H vs us Q I r ⟨B, G, δ, σ', ds, R, rel, b, q, k⟩
  match ds, q with
  | [d], q =>
    obtain ⟨v, rfl, bd⟩ := b.one
    cases d with
    | int i => obtain rfl := bor_int bd; exact call_int1 pins s σ H _ us Q I r (.inl ⟨i, rfl, k _ H G _ q (Same.refl _) rel (Dn.int _)⟩)
    | bool i => obtain rfl := bor_bool bd; exact call_int1 pins s σ H _ us Q I r (.inr ⟨i, rfl, k _ H G _ q (Same.refl _) rel (Dn.int _)⟩)
    | str z =>
      obtain rfl := bor_str bd
      obtain ⟨n, q1, q2, q3⟩ := q
      exact call_int_str pins s σ H _ us Q I r ⟨z, n, rfl, q1, q2, k _ H G _ q3 (Same.refl _) rel (Dn.int _)⟩
    | _ => exact False.elim q
def pBool : PN := one fun x R => match x with
  | .int i => R (.bool (i != 0))
  | .bool b => R (.bool b)
  | _ => False
def pStr : PN := one fun x R => match x with
  | .int i => i.natAbs.log2 < 1920 ∧ R (.str (toString i))
  | .str z => R (.str z)
  | _ => False
def pAbs : PN := one fun x R => match x with
  | .int i => R (.int (if i < 0 then -i else i))
  | _ => False
theorem c_abs : CallD X (.builtin "abs") pAbs := by
  intro pins s σ H vs us Q I r ⟨B, G, δ, σ', ds, R, rel, b, q, k⟩
  match ds, q with
  | [d], q =>
    obtain ⟨v, rfl, bd⟩ := b.one
    cases d with
    | int i => obtain rfl := bor_int bd; exact call_abs pins s σ H _ us Q I r ⟨i, rfl, k _ H G _ q (Same.refl _) rel (Dn.int _)⟩
    | _ => exact False.elim q
def pMax2 : PN := two fun x y R => match x, y with
  | .int i, .int j => R (.int (if j > i then j else i))
  | _, _ => False
def pMin2 : PN := two fun x y R => match x, y with
  | .int i, .int j => R (.int (if j < i then j else i))
  | _, _ => False
def pSum : PN := one fun x R => match x with
  | .list ds => ∃ ns : List Int, ds = ns.map PyData.int ∧ R (.int ns.sum)
  | _ => False
def pMax : PN := one fun x R => match x with
  | .list ds => ∃ ns : List Int, ds = ns.map PyData.int ∧ 0 < ns.length ∧ ∀ m, m ∈ ns → (∀ y ∈ ns, y ≤ m) → R (.int m)
  | _ => False
def pMin : PN := one fun x R => match x with
  | .list ds => ∃ ns : List Int, ds = ns.map PyData.int ∧ 0 < ns.length ∧ ∀ m, m ∈ ns → (∀ y ∈ ns, m ≤ y) → R (.int m)
  | _ => False
def pAll : PN := one fun x R => match x with
  | .list ds => ∃ bs : List Bool, ds = bs.map PyData.bool ∧ R (.bool (bs.all id))
  | _ => False
def pAny : PN := one fun x R => match x with
  | .list ds => ∃ bs : List Bool, ds = bs.map PyData.bool ∧ R (.bool (bs.any id))
  | _ => False
def pRepr : PN := one fun x R => x.showable = true ∧ x.hasDict = false ∧ x.depth ≤ 60 ∧ x.shown.length ≤ 16000000 ∧ R (.str x.shown)
def tyName : PyData → String
  | .none => "NoneType" | .bool _ => "bool" | .int _ => "int" | .str _ => "str" | .list _ => "list" | .tuple _ => "tuple" | .dict [] => "dict" | .dict (_ :: _) => "object"
def TyF (K : PySem.W.Frag) (H : Hp) (v : V) (t : Value) : Prop := TyX K H v t ∨ ∃ a o ws, v = .ref a ∧ t = .type "dict" ∧ H a = some (.frz o (.dT ws))
theorem dn_tyX {K : PySem.W.Frag} {H : Hp} {v : V} {d : PyData} (h : Dn K H v d) (hd : tyName d ≠ "object") : TyF K H v (.type (tyName d)) := by
  by_cases z : ∃ a o ws, v = .ref a ∧ Value.type (tyName d) = .type "dict" ∧ H a = some (.frz o (.dT ws))
  · exact .inr z
  refine .inl ?_
  cases h with
  | non => exact .base .non
  | bl b => exact .base (.bl b)
  | int i => exact .base (.int i)
  | str x => exact .base (.str x)
  | lst h t => exact .base (.lst h)
  | tup h t =>
    rcases h.two with h | ⟨o, _, h⟩
    · exact .base (.tup h)
    · exact .fTuple h
  | dic h n => exact .base (.dK h)
  | ob h k e t => exact absurd rfl hd
  | fK h e t => exact absurd rfl hd
  | fT h e t => exact absurd rfl hd
theorem dn_tyO {K : PySem.W.Frag} {H : Hp} {v : V} {d : PyData} (h : Dn K H v d) (hd : tyName d = "object") : (∃ n C, ObjK K n C ∧ TyX K H v (.ref C)) ∨ TyF K H v (.type "dict") := by
  cases h with
  | ob h k e t => exact .inl ⟨_, _, k, .base (.ins h k.cl k.ha k.hn k.tk k.mr)⟩
  | fK h e t => exact .inr (.inl (.fDict h))
  | fT h e t => exact .inr (.inr ⟨_, _, _, rfl, rfl, h⟩)
  | _ => exact absurd hd (by simp [tyName])
def rIsiF (K : PySem.W.Frag) : List V → Hp → VK → Prop := fun xs H Q => ∃ (x c : V) (t u : Value) (b : Bool), xs = [x, c] ∧ ClsV c u ∧ TyF K H x t ∧ PySem.W.kitOne K t u = some b ∧ Q (.bl b) H
theorem call_isiF {X : Cx} : CallR X (.builtin "isinstance") (rIsiF X.K) := fun pins s σ H xs us Q I r ⟨x, c, t, u, b, e1, k, ty, e, q⟩ => by
  rcases ty with ty | ⟨a, o, ws, rfl, rfl, ea⟩
  · exact call_isi pins s σ H xs us Q I r ⟨x, c, t, u, b, e1, k, ty, e, q⟩
  · subst e1
    obtain ⟨u1, u2, rfl, r1, r2⟩ := vals2 r
    cases k.eq r2
    cases (show u1 = Value.ref a from r1)
    obtain ⟨_, _, _, _, _, ob, _, _, h1, h2, _⟩ := (show ObjOk X.prog X.w H s.heap a (.frz o (.dT ws)) from I.hok a _ ea)
    exact PySem.W.kia_one PySem.W.kitx_dict I.kIn ⟨ob, h1, h2.1⟩ e (fun z => nomatch z) fun tk => ⟨.bl b, H, I.tok tk, rfl, q⟩
def isTy (T : String) (d : PyData) : Bool := tyName d == T || (T == "int" && tyName d == "bool")
def wIsi (T : String) (w : DE) : DE := fun δ R => w δ fun o δ1 => use o δ1 fun x => R (.d (.bool (isTy T x))) δ1
theorem kit_isTy {K : PySem.W.Frag} {T : String} (hT : T = "int" ∨ T = "bool" ∨ T = "str" ∨ T = "tuple" ∨ T = "list" ∨ T = "dict") (d : PyData) (hd : tyName d ≠ "object") : PySem.W.kitOne K (.type (tyName d)) (.type T) = some (isTy T d) := by
  apply kit_ty
  have all : ∀ n ∈ ["NoneType", "bool", "int", "str", "list", "tuple", "dict"], ∀ T ∈ ["int", "bool", "str", "tuple", "list", "dict"], kitB n T = some (n == T || (T == "int" && n == "bool")) := by decide +kernel
  exact all (tyName d) (by unfold tyName at hd ⊢; split <;> simp_all) T (by simpa using hT)
theorem je_isi {T : String} {e : Expr} {w : DE} {x t : Str} {px pt pos : Pos} (hT : T = "int" ∨ T = "bool" ∨ T = "str" ∨ T = "tuple" ∨ T = "list") (hg : Gl X x) (hm : X.mg x = none) (hv : bootBuiltins x = some (.builtin "isinstance")) (ht : Gl X t) (hmt : X.mg t = none) (hvt : bootBuiltins t = some (.type T)) (he : JE X e w)
    (hn : x ≠ "__name__" := by decide) (hdb : (x == ("__debug__" : Str)) = false := by decide) (hn2 : t ≠ "__name__" := by decide) (hdb2 : (t == ("__debug__" : Str)) = false := by decide)
    (hs1 : starEach [e, .Name t pt] X.env = (false, eval e X.env) :: starEach [.Name t pt] X.env := by rfl) (hs2 : starEach [.Name t pt] X.env = (false, eval (.Name t pt) X.env) :: starEach [] X.env := by rfl)
    (hpl : (backTo pos (starEach [.Name t pt] X.env)).any (·.1) = false := by rfl) :
    JE X (.Call (.Name x px) [e, .Name t pt] [] pos) (wIsi T w) :=
  pe_le (pe_callB call_isiF hg hm hv (pa_cons he (pa_cons (pe_bltn (v := .ty T) ht hmt hvt rfl hn2 hdb2) pa_nil hs2) hs1) hn hdb hs1 hpl) fun pins s σ H Q I ⟨B, G, δ, R, rel, hw, k⟩ =>
    ⟨B, G, δ, _, rel, hw, fun v H1 G1 o δ1 r1 s1 rel1 ok1 => by
      obtain ⟨d, q, bd⟩ := use_ok rel1 ok1 r1
      by_cases hd : tyName d = "object"
      · have no : isTy T d = false := by
          unfold isTy
          rw [hd]
          rcases hT with rfl | rfl | rfl | rfl | rfl <;> decide
        rw [no] at q
        rcases dn_tyO (bd.dn rel1) hd with ⟨n, C, ok, ty⟩ | ty
        · exact ⟨v, .ty T, _, _, _, rfl, ClsV.ty T, .inl ty, ok.ty T (by rcases hT with rfl | rfl | rfl | rfl | rfl <;> decide), k _ H1 G1 _ δ1 q s1 rel1 (Dn.bl _)⟩
        · refine ⟨v, .ty T, _, _, _, rfl, ClsV.ty T, ty, (?_ : PySem.W.kitOne X.K (.type "dict") (.type T) = some false), k _ H1 G1 _ δ1 q s1 rel1 (Dn.bl _)⟩
          have := kit_isTy (K := X.K) (T := T) (by rcases hT with h | h | h | h | h <;> simp [h]) (.dict []) (by decide)
          rw [show isTy T (.dict []) = false by rcases hT with rfl | rfl | rfl | rfl | rfl <;> decide] at this
          exact this
      · exact ⟨v, .ty T, _, _, _, rfl, ClsV.ty T, dn_tyX (bd.dn rel1) hd, kit_isTy (by rcases hT with h | h | h | h | h <;> simp [h]) d hd, k _ H1 G1 _ δ1 q s1 rel1 (Dn.bl _)⟩⟩
def wRevL (w : DE) : DE := fun δ R => w δ fun o δ1 => use o δ1 fun x => ∃ ds, x = .list ds ∧ R (.d (.list ds.reverse)) δ1
theorem je_glob {x : Str} {v : V} {u : Value} {d : PyData} {pos : Pos} (hg : Gl X x) (hm : X.mg x = some u) (r : RelV v u) (hd : ∀ K G, Dn K G v d) (hdb : (x == ("__debug__" : Str)) = false := by decide) : JE X (.Name x pos) (wC d) := je_c (pe_glob hg hm r hdb) hd
end
end DL
set_option Elab.async false
set_option linter.all false
set_option maxRecDepth 100000
set_option maxHeartbeats 4000000
namespace DL
open PySem PySem.Spec PyProof.Rows L2
variable [Tb]

def bov (B H : Hp) (l : List Addr) : Hp := fun a => if a ∈ l then H a else B a
abbrev DM := DS → (Cell → DS → Prop) → Prop
abbrev DMs := DS → (List Cell → DS → Prop) → Prop
def fps (cs : List Cell) : List Addr := cs.flatMap Cell.fp
inductive CellsOk (K : PySem.W.Frag) (G H : Hp) : List Cell → List V → Prop
  | nil : CellsOk K G H [] []
  | cons {c : Cell} {v : V} {cs : List Cell} {vs : List V} (h : CellOk K G H c (some v)) (hd : ∀ a ∈ c.fp, a ∉ fps cs) (t : CellsOk K G H cs vs) : CellsOk K G H (c :: cs) (v :: vs)
def upMs (K : PySem.W.Frag) (w : DMs) : TA := fun σ H Q => ∃ B G δ R, Rel K B G δ σ H ∧ w δ R ∧ ∀ vs H' G' cs δ', R cs δ' → Same G G' → Rel K (bov B H' (fps cs)) G' δ' σ H' → (∀ a ∈ fps cs, B a = none) → CellsOk K G' H' cs vs → Q vs H'
def upM (K : PySem.W.Frag) (w : DM) : TE := fun σ H Q => ∃ B G δ R, Rel K B G δ σ H ∧ w δ R ∧ ∀ v H' G' c δ', R c δ' → Same G G' → Rel K (bov B H' c.fp) G' δ' σ H' → (∀ a ∈ c.fp, B a = none) → CellOk K G' H' c (some v) → Q v H'
abbrev JM (X : Cx) (e : Expr) (w : DM) : Prop := PE X e (upM X.K w)
abbrev JMs (X : Cx) (es : List Expr) (w : DMs) : Prop := PA X es (upMs X.K w)
theorem bov_nil {B H : Hp} : bov B H [] = B := by funext a; simp [bov]
section
variable {X : Cx} {e : Expr} {es : List Expr} {pos : Pos}
def mE (w : DE) : DM := fun δ R => w δ fun o δ1 => lk o δ1 fun x δ2 => R (.d x) δ2
def mL (w : DL) : DM := fun δ R => w δ fun xs δ1 => ∀ a, R (.ol a xs) δ1
theorem jm_e {w : DE} (h : JE X e w) : JM X e (mE w) := pe_le h fun pins s σ H Q I ⟨B, G, δ, R, rel, hw, k⟩ => ⟨B, G, δ, _, rel, hw, fun v H1 G1 o δ1 r1 s1 rel1 ok1 => by
  obtain ⟨G2, δ2, x, q, s2, rel2, dn⟩ := lk_ok rel1 ok1 r1
  exact k v H1 G2 (.d x) δ2 q (s1.trans s2) (by show Rel X.K (bov B H1 []) G2 δ2 σ H1; rw [bov_nil]; exact rel2) (fun a m => nomatch m) ⟨v, rfl, dn⟩⟩
theorem jm_l {w : DL} (h : JL X e w) : JM X e (mL w) := pe_le h fun pins s σ H Q I ⟨B, G, δ, R, rel, hw, k⟩ => ⟨B, G, δ, _, rel, hw, fun a vs H1 G1 xs δ1 r1 s1 rel1 hB t => by
  have ha : H1 a = some (.lst vs) := rel1.sb _ _ upd_same
  have e : bov B H1 [a] = upd B a (.lst vs) := by
    funext b
    unfold bov upd
    by_cases hb : b = a
    · subst hb; simp [ha]
    · simp [hb]
  exact k (.ref a) H1 G1 (.ol a xs) δ1 (r1 a) s1 (by show Rel X.K (bov B H1 [a]) G1 δ1 σ H1; rw [e]; exact rel1) (fun b m => by rw [List.mem_singleton.mp m]; exact hB) ⟨rfl, vs, ha, t⟩⟩
def msNil : DMs := fun δ R => R [] δ
def msCons (w : DM) (r : DMs) : DMs := fun δ R => w δ fun c δ1 => r δ1 fun cs δ2 => R (c :: cs) δ2
theorem jms_nil : JMs X [] msNil := pa_le pa_nil fun pins s σ H Q I ⟨B, G, δ, R, rel, hw, k⟩ => k [] H G [] δ hw (Same.refl _) (by show Rel X.K (bov B H []) G δ σ H; rw [bov_nil]; exact rel) (fun a m => nomatch m) .nil
theorem jms_cons {w : DM} {r : DMs} (ha : JM X e w) (hr : JMs X es r) (hs : starEach (e :: es) X.env = (false, eval e X.env) :: starEach es X.env := by rfl) : JMs X (e :: es) (msCons w r) :=
  pa_le (pa_cons ha hr hs) fun pins s σ H Q I ⟨B, G, δ, R, rel, hw, k⟩ =>
    ⟨B, G, δ, _, rel, hw, fun v H1 G1 c δ1 r1 s1 rel1 hB1 ok1 => ⟨bov B H1 c.fp, G1, δ1, _, rel1, r1, fun vs H2 G2 cs δ2 r2 s2 rel2 hB2 ok2 => by
      have off : ∀ a ∈ c.fp, a ∉ fps cs := fun a m m2 => by
        have z := hB2 a m2
        unfold bov at z
        rw [if_pos m] at z
        obtain ⟨o, eo⟩ := cell_tr (K := X.K) (G := G1) ok1 m
        rw [eo] at z; cases z
      have same : ∀ a ∈ c.fp, H2 a = H1 a := fun a m => by
        obtain ⟨o, eo⟩ := cell_tr (K := X.K) (G := G1) ok1 m
        have z : bov (bov B H1 c.fp) H2 (fps cs) a = some o := by
          unfold bov
          rw [if_neg (off a m), if_pos m]; exact eo
        rw [rel2.sb _ _ z, eo]
      have eb : bov (bov B H1 c.fp) H2 (fps cs) = bov B H2 (fps (c :: cs)) := by
        funext a
        unfold bov
        by_cases h1 : a ∈ fps cs
        · have h3 : a ∈ fps (c :: cs) := by unfold fps; rw [List.flatMap_cons]; exact List.mem_append_right _ h1
          rw [if_pos h1, if_pos h3]
        · by_cases h2 : a ∈ c.fp
          · have h3 : a ∈ fps (c :: cs) := by unfold fps; rw [List.flatMap_cons]; exact List.mem_append_left _ h2
            rw [if_neg h1, if_pos h2, if_pos h3, same a h2]
          · have h3 : a ∉ fps (c :: cs) := by
              unfold fps; rw [List.flatMap_cons]; intro m
              rcases List.mem_append.mp m with m | m
              · exact h2 m
              · exact h1 m
            rw [if_neg h1, if_neg h2, if_neg h3]
      refine k (v :: vs) H2 G2 (c :: cs) δ2 r2 (s1.trans s2) (eb ▸ rel2) (fun a m => ?_) (.cons (ok1.stay s2 same) off ok2)
      unfold fps at m
      rw [List.flatMap_cons] at m
      rcases List.mem_append.mp m with m | m
      · exact hB1 a m
      · have z := hB2 a m
        unfold bov at z
        split at z
        · rename_i hm
          exact absurd m (off a hm)
        · exact z⟩⟩
end

section
variable {K : PySem.W.Frag} {B G H : Hp} {δ : DS} {σ : L2.St}
theorem Rel.store {c : Cell} {v : V} {i : Nat} {l : List Addr} (R : Rel K (bov B H (c.fp ++ l)) G δ σ H) (hB : ∀ a ∈ c.fp, B a = none) (hl : ∀ a ∈ c.fp, a ∉ l) (ok : CellOk K G H c (some v)) : Rel K (bov B H l) G (δ.set i c) (σ.set i (some v)) H := by
  have tr : ∀ a ∈ c.fp, ∃ o, H a = some o := fun a m => cell_tr ok m
  have bg : ∀ a ∈ c.fp, G a = none := fun a m => by
    rcases R.dj a with z | z
    · exact z
    · obtain ⟨o, eo⟩ := tr a m
      unfold bov at z
      rw [if_pos (List.mem_append_left _ m), eo] at z; cases z
  have bn : ∀ a ∈ c.fp, bov B H l a = none := fun a m => by
    unfold bov; rw [if_neg (hl a m)]; exact hB a m
  have sub : Same (bov B H l) H := fun a o z => by
    unfold bov at z
    split at z
    · exact z
    · by_cases m : a ∈ c.fp
      · rw [hB a m] at z; cases z
      · refine R.sb a o ?_
        unfold bov
        split
        · rename_i hm
          rcases List.mem_append.mp hm with q | q
          · exact absurd q m
          · rename_i hn; exact absurd q hn
        · exact z
  have R' : Rel K (bov B H l) G δ σ H := by
    refine ⟨R.len, R.sg, sub, fun a => ?_, R.ok, R.ap, fun i c' a e m => ?_, ⟨R.tt.t, ⟨fun a o e => ?_, R.tt.n.g⟩⟩⟩
    · rcases R.dj a with z | z
      · exact .inl z
      · by_cases m : a ∈ c.fp
        · exact .inr (bn a m)
        · refine .inr ?_
          unfold bov at z ⊢
          split
          · rename_i hm
            rw [if_pos (List.mem_append_right _ hm)] at z; exact z
          · rename_i hm
            rw [if_neg] at z
            · exact z
            · intro q
              rcases List.mem_append.mp q with q | q
              · exact m q
              · exact hm q
    · obtain ⟨f1, f2⟩ := R.fr i c' a e m
      refine ⟨f1, ?_⟩
      by_cases m2 : a ∈ c.fp
      · exact bn a m2
      · unfold bov at f2 ⊢
        split
        · rename_i hm
          rw [if_pos (List.mem_append_right _ hm)] at f2; exact f2
        · rename_i hm
          rw [if_neg] at f2
          · exact f2
          · intro q
            rcases List.mem_append.mp q with q | q
            · exact m2 q
            · exact hm q
    · unfold bov at e
      split at e
      · rename_i hm
        exact R.tt.n.b a o (by unfold bov; rw [if_pos (List.mem_append_right _ hm)]; exact e)
      · rename_i hm
        by_cases m2 : a ∈ c.fp
        · exact absurd e (by rw [hB a m2]; simp)
        · refine R.tt.n.b a o ?_
          unfold bov
          rw [if_neg fun q => (List.mem_append.mp q).elim m2 hm]
          exact e
  refine R'.set ok fun a m => ⟨⟨bg a m, bn a m⟩, fun j c' hj e m' => ?_⟩
  obtain ⟨_, f2⟩ := R.fr j c' a e m'
  obtain ⟨o, eo⟩ := tr a m
  unfold bov at f2
  rw [if_pos (List.mem_append_left _ m), eo] at f2; cases f2
end

structure DEnds where
  nx : DS → Prop
  rt : PyData → DS → Prop
  bk : DS → Prop := fun _ => False
  ct : DS → Prop := fun _ => False
abbrev DTS := DEnds → DS → Prop
structure EndsOk (K : PySem.W.Frag) (B G : Hp) (E : DEnds) (D : Ends) : Prop where
  nx : ∀ σ' H' G' δ', E.nx δ' → Same G G' → Rel K B G' δ' σ' H' → D.nx σ' H'
  rt : ∀ v σ' H' G' x δ', E.rt x δ' → Same G G' → Rel K B G' δ' σ' H' → Dn K G' v x → D.rt v H'
  bk : ∀ σ' H' G' δ', E.bk δ' → Same G G' → Rel K B G' δ' σ' H' → D.bk σ' H'
  ct : ∀ σ' H' G' δ', E.ct δ' → Same G G' → Rel K B G' δ' σ' H' → D.ct σ' H'
theorem EndsOk.mono {K : PySem.W.Frag} {B G G' : Hp} {E : DEnds} {D : Ends} (h : EndsOk K B G E D) (s : Same G G') : EndsOk K B G' E D :=
  ⟨fun σ' H' G2 δ' r s2 => h.nx σ' H' G2 δ' r (s.trans s2), fun v σ' H' G2 x δ' r s2 => h.rt v σ' H' G2 x δ' r (s.trans s2), fun σ' H' G2 δ' r s2 => h.bk σ' H' G2 δ' r (s.trans s2), fun σ' H' G2 δ' r s2 => h.ct σ' H' G2 δ' r (s.trans s2)⟩
def upS (K : PySem.W.Frag) (w : DTS) : TS := fun D σ H => ∃ B G δ E, Rel K B G δ σ H ∧ w E δ ∧ EndsOk K B G E D
abbrev JS (X : Cx) (st : Stmt) (w : DTS) : Prop := PS X st (upS X.K w)
abbrev JSs (X : Cx) (st : List Stmt) (w : DTS) : Prop := PSs X st (upS X.K w)
section
variable {X : Cx} {st : Stmt} {rest : List Stmt} {e : Expr} {pos : Pos}
theorem ps_le {t t' : TS} (h : PS X st t) (l : ∀ pins s σ H D, Inv X pins σ H s → t' D σ H → t D σ H) : PS X st t' := ⟨fun pins s σ H D I q => h.run pins s σ H D I (l pins s σ H D I q)⟩
theorem pss_le {t t' : TS} (h : PSs X rest t) (l : ∀ pins s σ H D, Inv X pins σ H s → t' D σ H → t D σ H) : PSs X rest t' := ⟨fun pins s σ H D I q => h.run pins s σ H D I (l pins s σ H D I q)⟩
def wNext : DTS := fun E δ => E.nx δ
def wSeq (t u : DTS) : DTS := fun E δ => t { E with nx := u E } δ
theorem jss_nil : JSs X [] wNext := pss_le pss_nil fun pins s σ H D I ⟨B, G, δ, E, rel, hw, k⟩ => k.nx σ H G δ hw (Same.refl _) rel
theorem jss_cons {t u : DTS} (h1 : JS X st t) (h2 : JSs X rest u) : JSs X (st :: rest) (wSeq t u) := pss_le (pss_cons h1 h2) fun pins s σ H D I ⟨B, G, δ, E, rel, hw, k⟩ =>
  ⟨B, G, δ, _, rel, hw, ⟨fun σ' H' G' δ' r s1 rel1 => ⟨B, G', δ', E, rel1, r, k.mono s1⟩, k.rt, k.bk, k.ct⟩⟩
theorem jss_one {t : DTS} (h : JS X st t) : JSs X [st] t := pss_one h
def wBrk : DTS := fun E δ => E.bk δ
def wCnt : DTS := fun E δ => E.ct δ
def wRet (w : DE) : DTS := fun E δ => w δ fun o δ1 => lk o δ1 fun x δ2 => E.rt x δ2
theorem js_ret {w : DE} (h : JE X e w) : JS X (.Return (some e) pos) (wRet w) := ps_le (ps_ret h) fun pins s σ H D I ⟨B, G, δ, E, rel, hw, k⟩ => ⟨B, G, δ, _, rel, hw, fun v H1 G1 o δ1 r1 s1 rel1 ok1 => by
  obtain ⟨G2, δ2, x, q, s2, rel2, dn⟩ := lk_ok rel1 ok1 r1
  exact k.rt v σ H1 G2 x δ2 q (s1.trans s2) rel2 dn⟩
def wRetN : DTS := fun E δ => E.rt .none δ
def wIf (c : DT) (t u : DTS) : DTS := fun E δ => c δ fun b δ1 => if b = true then t E δ1 else u E δ1
theorem js_if {c : Expr} {p q : List Stmt} {tc : DT} {t u : DTS} (hc : JT X c tc) (hp : JSs X p t) (hq : JSs X q u) : JS X (.If c p q pos) (wIf tc t u) := ps_le (ps_if hc hp hq) fun pins s σ H D I ⟨B, G, δ, E, rel, hw, k⟩ => ⟨B, G, δ, _, rel, hw, fun b H1 G1 δ1 r1 s1 rel1 => by
  cases b with
  | true => rw [if_pos rfl] at r1 ⊢; exact ⟨B, G1, δ1, E, rel1, r1, k.mono s1⟩
  | false => rw [if_neg Bool.false_ne_true] at r1 ⊢; exact ⟨B, G1, δ1, E, rel1, r1, k.mono s1⟩⟩
def wNever : DTS := fun _ _ => False
def wDrop (w : DE) : DTS := fun E δ => w δ fun _ δ1 => E.nx δ1
def wSet (i : Nat) (w : DM) : DTS := fun E δ => w δ fun c δ1 => E.nx (δ1.set i c)
theorem js_set {i : Nat} {x : Str} {w : DM} {pos' : Pos} (hN : X.N.Nodup) (hi : X.N[i]? = some x) (hx : Loc X.env.scope x) (he : JM X e w) (hs : swapsWith e (some (.Name x pos')) pos.line X.env = pure false := by rfl) (hf : X.fn x = true ∨ X.env.scope.names.lookup x = some .local := by first | exact .inl rfl | exact .inr rfl | assumption) :
    JS X (.Assign [.Name x pos'] e pos) (wSet i w) := ps_le (ps_set hN hi hx he hs hf) fun pins s σ H D I ⟨B, G, δ, E, rel, hw, k⟩ => ⟨B, G, δ, _, rel, hw, fun v H1 G1 c δ1 r1 s1 rel1 hB ok1 => by
  have R2 := Rel.store (i := i) (l := []) (by rw [List.append_nil]; exact rel1) hB (fun _ _ m => nomatch m) ok1
  rw [bov_nil] at R2
  exact k.nx _ H1 G1 _ r1 s1 R2⟩
def wPar2 (i j : Nat) (w : DMs) : DTS := fun E δ => w δ fun cs δ1 => ∃ c d, cs = [c, d] ∧ E.nx ((δ1.set i c).set j d)
theorem js_par2 {i j : Nat} {x y : Str} {a b : Expr} {w : DMs} {px py pt : Pos} {kt k2 pt2} (hc : X.calm = true) (hN : X.N.Nodup) (hi : X.N[i]? = some x) (hj : X.N[j]? = some y) (hij : i ≠ j) (hx : X.env.scope.names.lookup x = some .local) (hy : X.env.scope.names.lookup y = some .local) (ha : JMs X [a, b] w)
    (hw : swappedStores [.Tuple [.Name x px, .Name y py] kt pt] (.Tuple [a, b] k2 pt2) X.env = pure (some [x, y]) := by rfl) (hs : swapsWithSole [.Tuple [.Name x px, .Name y py] kt pt] (.Tuple [a, b] k2 pt2) pos.line X.env = pure false := by rfl) :
    JS X (.Assign [.Tuple [.Name x px, .Name y py] kt pt] (.Tuple [a, b] k2 pt2) pos) (wPar2 i j w) := ps_le (ps_par hc hN hi hj hij hx hy ha hw hs) fun pins s σ H D I ⟨B, G, δ, E, rel, hw, k⟩ => ⟨B, G, δ, _, rel, hw, fun vs H1 G1 cs δ1 r1 s1 rel1 hB ok1 => by
  obtain ⟨c, d, rfl, q⟩ := r1
  cases ok1 with
  | cons h1 d1 t1 =>
    cases t1 with
    | cons h2 d2 t2 =>
      cases t2
      rename_i v u
      refine ⟨v, u, rfl, ?_⟩
      have e : fps [c, d] = c.fp ++ (d.fp ++ []) := by simp [fps]
      rw [e] at rel1
      have R2 := Rel.store (i := i) rel1 (fun a m => hB a (by simp [fps, m])) (fun a m => by have := d1 a m; simpa [fps] using this) h1
      have R3 := Rel.store (i := j) R2 (fun a m => hB a (by simp [fps, m])) (fun a m z => nomatch z) h2
      rw [bov_nil] at R3
      exact k.nx _ H1 G1 _ q s1 R3⟩
def wAug (i : Nat) (p : P2) (w : DE) : DTS := fun E δ => ∃ x, δ[i]? = some (.d x) ∧ w δ fun o δ1 => use o δ1 fun y => p x y fun z => E.nx (δ1.set i (.d z))
end
end DL
set_option Elab.async false
set_option linter.all false
set_option maxRecDepth 100000
set_option maxHeartbeats 4000000
namespace DL
open PySem PySem.Spec PyProof.Rows L2
variable [Tb]

abbrev DTG := PyData → DS → (DS → Prop) → Prop
abbrev DTGs := List PyData → DS → (DS → Prop) → Prop
def Only (σ σ' : L2.St) (ts : List Nat) : Prop := ∀ vs : List Nat, (∀ t ∈ ts, t ∈ vs) → wipe σ' vs = wipe σ vs
theorem wipe_set {σ : L2.St} {i : Nat} {o : Option V} : ∀ {vs : List Nat}, i ∈ vs → wipe (σ.set i o) vs = wipe σ vs := by
  intro vs
  induction vs with
  | nil => intro h; cases h
  | cons v vs ih =>
    intro h
    unfold wipe
    by_cases hi : i ∈ vs
    · rw [ih hi]
    · have e : i = v := by
        rcases List.mem_cons.mp h with z | z
        · exact z
        · exact absurd z hi
      subst e
      have out : ∀ (σ : L2.St) (ws : List Nat), i ∉ ws → wipe (σ.set i o) ws = (wipe σ ws).set i o := by
        intro σ ws
        induction ws with
        | nil => intro _; rfl
        | cons w ws ih2 =>
          intro hw
          unfold wipe
          rw [ih2 (fun z => hw (List.mem_cons_of_mem _ z)), List.set_comm _ _ (fun z => hw (by rw [z]; exact List.mem_cons_self ..))]
      rw [out σ vs hi, List.set_set]
theorem Only.refl (σ : L2.St) (ts : List Nat) : Only σ σ ts := fun _ _ => rfl
theorem Only.trans {σ σ1 σ2 : L2.St} {ts us : List Nat} (a : Only σ σ1 ts) (b : Only σ1 σ2 us) : Only σ σ2 (ts ++ us) := fun vs h =>
  (b vs fun t m => h t (List.mem_append_right _ m)).trans (a vs fun t m => h t (List.mem_append_left _ m))
def upG (K : PySem.W.Frag) (ts : List Nat) (g : DTG) : TG := fun v σ H Q => ∃ B G δ x R, Rel K B G δ σ H ∧ Dn K G v x ∧ g x δ R ∧ ∀ σ' H' G' δ', R δ' → Same G G' → Rel K B G' δ' σ' H' → Only σ σ' ts → Q σ' H'
def upGs (K : PySem.W.Frag) (ts : List Nat) (g : DTGs) : TGs := fun vs σ H Q => ∃ B G δ xs R, Rel K B G δ σ H ∧ DnL K G vs xs ∧ g xs δ R ∧ ∀ σ' H' G' δ', R δ' → Same G G' → Rel K B G' δ' σ' H' → Only σ σ' ts → Q σ' H'
abbrev JG (X : Cx) (tg : Expr) (ts : List Nat) (g : DTG) : Prop := PG X tg (upG X.K ts g)
abbrev JGs (X : Cx) (tg : List Expr) (ts : List Nat) (g : DTGs) : Prop := PGs X tg (upGs X.K ts g)
def gN (i : Nat) : DTG := fun x δ R => R (δ.set i (.d x))
def gsNil : DTGs := fun xs δ R => match xs with
  | [] => R δ
  | _ => False
def gsCons (g : DTG) (r : DTGs) : DTGs := fun xs δ R => match xs with
  | x :: xs => g x δ fun δ1 => r xs δ1 R
  | [] => False
def gT (r : DTGs) : DTG := fun x δ R => match x with
  | .tuple xs => r xs δ R
  | _ => False
section
variable {X : Cx} {pos : Pos}
theorem pg_le {tg : Expr} {t t' : TG} (h : PG X tg t) (l : ∀ pins s v σ H Q, Inv X pins σ H s → t' v σ H Q → t v σ H Q) : PG X tg t' := ⟨fun pins s σ H v u Q I r q => h.run pins s σ H v u Q I r (l pins s v σ H Q I q)⟩
theorem pgs_le {tg : List Expr} {t t' : TGs} (h : PGs X tg t) (l : ∀ pins s v σ H Q, Inv X pins σ H s → t' v σ H Q → t v σ H Q) : PGs X tg t' := ⟨fun pins s σ H v u Q I r q => h.run pins s σ H v u Q I r (l pins s v σ H Q I q)⟩
theorem jg_name {i : Nat} {x : Str} (hN : X.N.Nodup) (hi : X.N[i]? = some x) (hx : Loc X.env.scope x) (hf : X.fn x = true ∨ X.env.scope.names.lookup x = some .local := by first | exact .inl rfl | exact .inr rfl | assumption) : JG X (.Name x pos) [i] (gN i) :=
  pg_le (pg_name hN hi hx hf) fun pins s v σ H Q I ⟨B, G, δ, d, R, rel, dn, hw, k⟩ => k _ H G _ hw (Same.refl _) (rel.setD dn) fun vs h => wipe_set (h i (List.mem_singleton.mpr rfl))
theorem jgs_nil : JGs X [] [] gsNil := pgs_le pgs_nil fun pins s v σ H Q I ⟨B, G, δ, d, R, rel, dn, hw, k⟩ => by
  cases dn with
  | nil => exact ⟨rfl, k σ H G δ hw (Same.refl _) rel (Only.refl _ _)⟩
  | cons a b => exact hw.elim
theorem jgs_cons {e : Expr} {es : List Expr} {ts us : List Nat} {g : DTG} {r : DTGs} (h1 : JG X e ts g) (h2 : JGs X es us r) (hs : (assignEach (e :: es) X.env).map (·.2) = assign e X.env :: (assignEach es X.env).map (·.2) := by rfl) : JGs X (e :: es) (ts ++ us) (gsCons g r) :=
  pgs_le (pgs_cons h1 h2 hs) fun pins s v σ H Q I ⟨B, G, δ, d, R, rel, dn, hw, k⟩ => by
    cases dn with
    | nil => exact hw.elim
    | cons a b => exact ⟨_, _, rfl, B, G, δ, _, _, rel, a, hw, fun σ1 H1 G1 δ1 r1 s1 rel1 o1 => ⟨B, G1, δ1, _, _, rel1, b.mono s1, r1, fun σ2 H2 G2 δ2 r2 s2 rel2 o2 => k σ2 H2 G2 δ2 r2 (s1.trans s2) rel2 (o1.trans o2)⟩⟩
theorem jg_tup {es : List Expr} {kk : Nat} {ts : List Nat} {r : DTGs} {n : Nat} (hc : X.calm = true) (h : JGs X es ts r) (hr : ∀ xs δ R, r xs δ R → xs.length = n)
    (hn : (assignEach es X.env).length = n := by rfl) (hst : (assignEach es X.env).findIdx? (·.1) = none := by rfl) : JG X (.Tuple es kk pos) ts (gT r) :=
  pg_le (pg_tup hc h hn hst) fun pins s v σ H Q I ⟨B, G, δ, d, R, rel, dn, hw, k⟩ => by
    cases dn with
    | tup hs ht => exact ⟨_, _, rfl, sqT_mono rel.sg hs.sq, by rw [ht.len]; exact hr _ _ _ hw, B, G, δ, _, R, rel, ht, hw, k⟩
    | _ => exact hw.elim
end
theorem gs_len0 : ∀ xs δ R, gsNil xs δ R → xs.length = 0 := fun xs δ R h => by
  cases xs with
  | nil => rfl
  | cons x xs => exact h.elim
theorem gs_lenN {i : Nat} {r : DTGs} {n : Nat} (h : ∀ xs δ R, r xs δ R → xs.length = n) : ∀ xs δ R, gsCons (gN i) r xs δ R → xs.length = n + 1 := fun xs δ R q => by
  cases xs with
  | nil => exact q.elim
  | cons x xs => rw [List.length_cons, h xs _ R q]
def WalkD (K : PySem.W.Frag) (J : It) (G : Hp) (xs : List PyData) : Prop := ∀ (B G2 : Hp) (δ : DS) (σ : L2.St) (H : Hp), Same G G2 → Rel K B G2 δ σ H →
  (∀ i, i < xs.length → J.go i H) ∧ J.stop xs.length H ∧ ∀ i x d H', xs[i]? = some d → J.yld i H x H' → ∃ G3, Same G2 G3 ∧ Rel K B G3 δ σ H' ∧ Dn K G3 x d
def upI (K : PySem.W.Frag) (w : DL) : TI := fun σ H R => ∃ B G δ R', Rel K B G δ σ H ∧ w δ R' ∧ ∀ J H' G' xs δ', R' xs δ' → Same G G' → Rel K B G' δ' σ H' → WalkD K J G' xs → xs.length ≤ sizeLine → R J H'
abbrev JI (X : Cx) (tg iter : Expr) (w : DL) : Prop := PI X tg iter (upI X.K w)
section
variable {X : Cx} {tg : Expr} {pos : Pos}
theorem pi_le {iter : Expr} {t t' : TI} (h : PI X tg iter t) (l : ∀ pins s σ H R, Inv X pins σ H s → t' σ H R → t σ H R) : PI X tg iter t' := ⟨fun pins s σ H R I q => h.run pins s σ H R I (l pins s σ H R I q)⟩
theorem walk_of_list {K : PySem.W.Frag} {G : Hp} {a : Addr} {vs : List V} {xs : List PyData} (h : G a = some (.lst vs)) (t : DnL K G vs xs) (inj : ∀ (B G2 : Hp) (δ : DS) (σ : L2.St) (H : Hp), Same G G2 → Rel K B G2 δ σ H → True) : WalkD K (Itl K a) G xs := fun B G2 δ σ H s rel => by
  have hH : SqL K H a vs := SqL.of (rel.sg _ _ (s _ _ h))
  have hl := t.len
  refine ⟨fun i hi => ⟨vs, vs[i]'(by omega), hH, List.getElem?_eq_getElem (by omega)⟩, ⟨vs, hH, by omega⟩, fun i x d H' hd y => ?_⟩
  obtain ⟨rfl, y⟩ := y
  obtain ⟨v, hv, dv⟩ := t.get hd
  have e := y vs hH
  rw [hv] at e; cases e
  exact ⟨G2, Same.refl _, rel, dv.mono s⟩
theorem walk_of_tup {K : PySem.W.Frag} {G : Hp} {a : Addr} {vs : List V} {xs : List PyData} (h : SqT K G a vs) (t : DnL K G vs xs) : WalkD K (Itt K a) G xs := fun B G2 δ σ H s rel => by
  have hH : SqT K H a vs := sqT_mono rel.sg (sqT_mono s h)
  have hl := t.len
  refine ⟨fun i hi => ⟨vs, vs[i]'(by omega), hH, List.getElem?_eq_getElem (by omega)⟩, ⟨vs, hH, by omega⟩, fun i x d H' hd y => ?_⟩
  obtain ⟨rfl, y⟩ := y
  obtain ⟨v, hv, dv⟩ := t.get hd
  have e := y vs hH
  rw [hv] at e; cases e
  exact ⟨G2, Same.refl _, rel, dv.mono s⟩
def iSeq (w : DE) : DL := fun δ R => w δ fun o δ1 => lk o δ1 fun x δ2 => match x with
  | .tuple xs => R xs δ2
  | .list xs => R xs δ2
  | _ => False
def iEither (K : PySem.W.Frag) (t : TE) : TI := fun σ H R => t σ H fun x H1 => ∃ a, x = .ref a ∧ ((∃ xs, SqL K H1 a xs ∧ R (Itl K a) H1) ∨ (∃ xs, SqT K H1 a xs ∧ R (Itt K a) H1))
theorem pi_either {l : Expr} {tl : TE} (hl : PE X l tl) : PI X tg l (iEither X.K tl) where
  run pins s σ H R I h := by
    refine wpAny_mono (hl.run pins s σ H _ I h) ?_ fun _ _ z => z
    rintro v ⟨hp, gs, dr, tk, os⟩ ⟨_, H1, I1, r1, a, rfl, q⟩
    cases r1
    have own : ∀ b ∈ [hp.objs.size], FpOk X pins H1 b := List.forall_mem_singleton.mpr (I1.fpOk (Nat.le_refl _) (I1.hok.fresh (Nat.le_refl _)))
    have kept : ∀ {o : Obj} b u, hp.get? b = some u → (hp.push o).get? b = some u := fun _ _ e => Heap.get?_push_of_some _ e
    rcases q with ⟨xs, isL, q⟩ | ⟨xs, isT, q⟩
    · obtain ⟨_, _, at_a, _⟩ := I1.list isL
      exact wpAny_pyIter_list at_a.isList ⟨_, _, _, _, H1, rfl, I1.kept (t' := tk) kept, turn_list a _, ⟨_, Heap.get?_push_size _ rfl, rfl, rfl⟩, own, q⟩
    · obtain ⟨its, _, at_a, _⟩ := I1.tuple isT
      exact wpAny_pyIter_tuple (show hp.IsTuple a its.toArray from at_a) ⟨_, _, _, _, H1, rfl, I1.kept (t' := tk) kept, turn_tuple a _, ⟨_, Heap.get?_push_size _ rfl, rfl, rfl⟩, own, q⟩
theorem piB {l : Expr} {w : DE} (h : JE X l w) : PE X l (fun σ H Q => up X.K w σ H fun v H1 => (∀ a xs, v = .ref a → (SqL X.K H1 a xs ∨ SqT X.K H1 a xs) → xs.length ≤ sizeLine) → Q v H1) where
  run pins s σ H Q I q := wpAny_mono (h.run pins s σ H _ I q) (fun v s1 ⟨x, H1, I1, r1, q1⟩ => ⟨x, H1, I1, r1, q1 fun a xs _ hs => hs.elim (fun z => (I1.list z).elim fun _ z => z.2.2) (fun z => (I1.tuple z).elim fun _ z => z.2.2)⟩) fun _ _ z => z
theorem ji_seq {l : Expr} {w : DE} (h : JE X l w) : JI X tg l (iSeq w) := pi_le (pi_either (piB h)) fun pins s σ H R I ⟨B, G, δ, R', rel, hw, k⟩ => ⟨B, G, δ, _, rel, hw, fun v H1 G1 o δ1 r1 s1 rel1 ok1 hz => by
  obtain ⟨G2, δ2, x, q, s2, rel2, dn⟩ := lk_ok rel1 ok1 r1
  cases dn with
  | lst hs t => exact ⟨_, rfl, .inl ⟨_, SqL.of (rel2.sg _ _ hs), k _ H1 G2 _ δ2 q (s1.trans s2) rel2 (walk_of_list hs t fun _ _ _ _ _ _ _ => trivial) (by rw [← t.len]; exact hz _ _ rfl (.inl (SqL.of (rel2.sg _ _ hs))))⟩⟩
  | tup hs t => exact ⟨_, rfl, .inr ⟨_, sqT_mono rel2.sg (hs.sq), k _ H1 G2 _ δ2 q (s1.trans s2) rel2 (walk_of_tup (hs.sq) t) (by rw [← t.len]; exact hz _ _ rfl (.inr (sqT_mono rel2.sg (hs.sq))))⟩⟩
  | _ => exact q.elim⟩
def nums (lo : Int) (n : Nat) : List PyData := (List.range n).map fun (i : Nat) => PyData.int (lo + (i : Int))
theorem walk_of_range {K : PySem.W.Frag} {G : Hp} {lo : Int} {n : Nat} : WalkD K (Itr lo n) G (nums lo n) := fun B G2 δ σ H s rel => by
  have hl : (nums lo n).length = n := by simp [nums]
  refine ⟨fun i hi => by rw [hl] at hi; exact hi, by rw [hl]; exact Nat.le_refl _, fun i x d H' hd y => ?_⟩
  obtain ⟨rfl, rfl⟩ := y
  unfold nums at hd
  rw [List.getElem?_map] at hd
  cases e : (List.range n)[i]? with
  | none => rw [e] at hd; cases hd
  | some j =>
    rw [e] at hd
    obtain ⟨h1, h2⟩ := List.getElem?_eq_some_iff.mp e
    rw [List.getElem_range] at h2
    cases hd
    subst h2
    exact ⟨G2, Same.refl _, rel, Dn.int _⟩
def iRange1 (w : DA) : DL := fun δ R => w δ fun os δ1 => useL os δ1 fun xs => ∃ j, xs = [PyData.int j] ∧ -1000000 ≤ j ∧ j ≤ 1000000 ∧ R (nums 0 j.toNat) δ1
def iRange2 (w : DA) : DL := fun δ R => w δ fun os δ1 => useL os δ1 fun xs => ∃ i j, xs = [PyData.int i, PyData.int j] ∧ (-1000000 ≤ i ∧ i ≤ 1000000 ∧ -1000000 ≤ j ∧ j ≤ 1000000) ∧ R (nums i (j - i).toNat) δ1
theorem nums_len {lo : Int} {n : Nat} : (nums lo n).length = n := by simp [nums]
theorem ji_range1 {a : Expr} {w : DA} {p : Pos} (hg : Gl X "range") (hm : X.mg "range" = none) (ha : JA X [a] w) (hs : starEach [a] X.env = [(false, eval a X.env)] := by rfl) : JI X tg (.Call (.Name "range" p) [a] [] pos) (iRange1 w) :=
  pi_le (pi_range1 hg hm ha hs) fun pins s σ H R I ⟨B, G, δ, R', rel, hw, k⟩ => ⟨B, G, δ, _, rel, hw, fun vs H1 G1 os δ1 r1 s1 rel1 ok1 => by
    obtain ⟨xs, ⟨j, rfl, h1, h2, q⟩, b⟩ := useL_ok rel1 ok1 r1
    obtain ⟨v, rfl, bv⟩ := b.one
    obtain rfl := bor_int bv
    exact ⟨j, rfl, by omega, by omega, k _ H1 G1 _ δ1 q s1 rel1 walk_of_range (by rw [nums_len, sizeLine_eq]; omega)⟩⟩
def pairsD : List PyData → List PyData → List PyData
  | x :: xs, y :: ys => .tuple [x, y] :: pairsD xs ys
  | _, _ => []
end
end DL
set_option Elab.async false
set_option linter.all false
set_option maxRecDepth 100000
set_option maxHeartbeats 4000000
namespace DL
open PySem PySem.Spec PyProof.Rows L2
variable [Tb]

def forIt (g : DTG) (b : DTS) : List PyData → DEnds → DS → Prop
  | [], E, δ => E.nx δ
  | x :: xs, E, δ => g x δ fun δ1 => b { nx := forIt g b xs E, rt := E.rt, bk := E.nx, ct := forIt g b xs E } δ1
def wFor (wi : DL) (g : DTG) (b : DTS) : DTS := fun E δ => wi δ fun xs δ1 => forIt g b xs E δ1
section
variable {X : Cx} {pos : Pos}
theorem js_for {tg iter : Expr} {body : List Stmt} {wi : DL} {g : DTG} {b : DTS} {ts : List Nat} (hp : PassesOwn (model X.prog X.w) X.A X.env X.xe) (hc : X.calm = true) (hi : JI X tg iter wi) (hg : JG X tg ts g) (hb : JSs X body b)
    (hs : ∀ x, foldedSetIterable iter X.env x = pure x := by intro _; rfl) : JS X (.For tg iter body [] pos) (wFor wi g b) := ps_le (ps_for hp hc hi hg hb hs) fun pins s σ H D I ⟨B, G, δ, E, rel, hw, k⟩ => by
  refine ⟨B, G, δ, _, rel, hw, fun J H1 G1 xs δ1 r1 s1 rel1 wk hl => ?_⟩
  refine ⟨fun i m σ' H' => m = xs.length - i ∧ i ≤ xs.length ∧ ∃ G2 δ2, Same G1 G2 ∧ Rel X.K B G2 δ2 σ' H' ∧ forIt g b (xs.drop i) E δ2, ⟨xs.length, by simp, Nat.zero_le _, G1, δ1, Same.refl _, rel1, by simpa using r1⟩, ?_⟩
  rintro i m σ2 H2 ⟨rfl, hi', G2, δ2, s2, rel2, q⟩
  obtain ⟨go, stop, yld⟩ := wk B G2 δ2 σ2 H2 s2 rel2
  by_cases hlt : i < xs.length
  · have ed : xs.drop i = xs[i] :: xs.drop (i + 1) := List.drop_eq_getElem_cons hlt
    rw [ed] at q
    refine .inr ⟨go i hlt, fun σ' H' => ∃ G3 δ3, Same G1 G3 ∧ Rel X.K B G3 δ3 σ' H' ∧ forIt g b (xs.drop (i + 1)) E δ3, fun σ' H' ⟨G3, δ3, s3, rel3, q3⟩ => ⟨xs.length - (i + 1), by omega, rfl, hlt, G3, δ3, s3, rel3, q3⟩, fun x H3 y => ?_⟩
    obtain ⟨G3, s3, rel3, dn⟩ := yld i x _ H3 (List.getElem?_eq_getElem hlt) y
    refine ⟨B, G3, δ2, _, _, rel3, dn, q, fun σ4 H4 G4 δ4 r4 s4 rel4 _ => ?_⟩
    have sa := s1.trans (s2.trans (s3.trans s4))
    exact ⟨B, G4, δ4, _, rel4, r4, ⟨fun σ' H' G5 δ5 r5 s5 rel5 => ⟨G5, δ5, s2.trans (s3.trans (s4.trans s5)), rel5, r5⟩, fun v σ' H' G5 x5 δ5 r5 s5 rel5 d5 => k.rt v σ' H' G5 x5 δ5 r5 (sa.trans s5) rel5 d5,
      fun σ' H' G5 δ5 r5 s5 rel5 => k.nx σ' H' G5 δ5 r5 (sa.trans s5) rel5, fun σ' H' G5 δ5 r5 s5 rel5 => ⟨G5, δ5, s2.trans (s3.trans (s4.trans s5)), rel5, r5⟩⟩⟩
  · have e : i = xs.length := by omega
    subst e
    rw [List.drop_length] at q
    exact .inl ⟨stop, k.nx σ2 H2 G2 δ2 q (s1.trans s2) rel2⟩
def wWhile (c : DT) (b : DTS) : DTS := fun E δ => ∃ W : Nat → DS → Prop, (∃ m, W m δ) ∧ ∀ m δ, W m δ → c δ fun k δ1 => if k = true then b { nx := fun δ' => ∃ m', m' < m ∧ W m' δ', rt := E.rt, bk := E.nx, ct := fun δ' => ∃ m', m' < m ∧ W m' δ' } δ1 else E.nx δ1
theorem js_while {c : Expr} {body : List Stmt} {tc : DT} {b : DTS} (hp : PassesOwn (model X.prog X.w) X.A X.env X.xe) (hc : JT X c tc) (hb : JSs X body b) : JS X (.While c body [] pos) (wWhile tc b) := ps_le (ps_while hp hc hb) fun pins s σ H D I ⟨B, G, δ, E, rel, ⟨W, ⟨m0, w0⟩, turn⟩, k⟩ => by
  refine ⟨fun m σ' H' => ∃ G2 δ2, Same G G2 ∧ Rel X.K B G2 δ2 σ' H' ∧ W m δ2, ⟨m0, G, δ, Same.refl _, rel, w0⟩, ?_⟩
  rintro m σ2 H2 ⟨G2, δ2, s2, rel2, q⟩
  refine ⟨B, G2, δ2, _, rel2, turn m δ2 q, fun kb H3 G3 δ3 r3 s3 rel3 => ?_⟩
  cases kb with
  | false => rw [if_neg Bool.false_ne_true] at r3 ⊢; exact k.nx σ2 H3 G3 δ3 r3 (s2.trans s3) rel3
  | true =>
    rw [if_pos rfl] at r3 ⊢
    have sa := s2.trans s3
    refine ⟨fun σ' H' => ∃ G4 δ4, Same G G4 ∧ Rel X.K B G4 δ4 σ' H' ∧ ∃ m', m' < m ∧ W m' δ4, fun σ' H' ⟨G4, δ4, s4, rel4, m', hm, w4⟩ => ⟨m', hm, G4, δ4, s4, rel4, w4⟩, B, G3, δ3, _, rel3, r3, ?_⟩
    exact ⟨fun σ' H' G5 δ5 r5 s5 rel5 => ⟨G5, δ5, sa.trans s5, rel5, r5⟩, fun v σ' H' G5 x5 δ5 r5 s5 rel5 d5 => k.rt v σ' H' G5 x5 δ5 r5 (sa.trans s5) rel5 d5, fun σ' H' G5 δ5 r5 s5 rel5 => k.nx σ' H' G5 δ5 r5 (sa.trans s5) rel5, fun σ' H' G5 δ5 r5 s5 rel5 => ⟨G5, δ5, sa.trans s5, rel5, r5⟩⟩
end

def wipeD (δ : DS) : List Nat → DS
  | [] => δ
  | v :: vs => (wipeD δ vs).set v .em
def keepC : Cell → Cell
  | .d x => .d x
  | _ => .em
def backD (δ0 δ : DS) : List Nat → DS
  | [] => δ
  | v :: vs => (backD δ0 δ vs).set v (keepC ((δ0[v]?).getD .em))
def compIt (g : DTG) (t : DT) (e : DE) (vs : List Nat) : List PyData → List PyData → DS → (List PyData → DS → Prop) → Prop
  | [], acc, δ, R => R acc δ
  | x :: xs, acc, δ, R => g x δ fun δ1 => t δ1 fun b δ2 => if b = true then e δ2 fun o δ3 => lk o δ3 fun y δ4 => compIt g t e vs xs (acc ++ [y]) (wipeD δ4 vs) R else compIt g t e vs xs acc (wipeD δ2 vs) R
def wComp (wi : DL) (g : DTG) (t : DT) (e : DE) (vs : List Nat) : DL := fun δ R => wi δ fun xs δ1 => compIt g t e vs xs [] (wipeD δ1 vs) fun ys δ2 => R ys (backD δ1 δ2 vs)
def tT : DT := fun δ R => R true δ
abbrev JTs (X : Cx) (es : List Expr) (w : DT) : Prop := PTs X es (upT X.K w)
section
variable {K : PySem.W.Frag} {B G H : Hp} {δ : DS} {σ : L2.St}
theorem Rel.wipe (R : Rel K B G δ σ H) : ∀ vs : List Nat, Rel K B G (wipeD δ vs) (L2.wipe σ vs) H
  | [] => R
  | v :: vs => (Rel.wipe R vs).clear none
theorem wipeD_em {i : Nat} : ∀ {vs : List Nat} {δ : DS}, i ∈ vs → (wipeD δ vs)[i]? = none ∨ (wipeD δ vs)[i]? = some .em
  | [], _, h => by cases h
  | v :: vs, δ, h => by
    unfold wipeD
    by_cases hv : v = i
    · subst hv
      rw [List.getElem?_set]
      simp only [if_true]
      split
      · exact .inr rfl
      · exact .inl rfl
    · rw [List.getElem?_set_ne hv]
      rcases List.mem_cons.mp h with z | z
      · exact absurd z.symm hv
      · exact wipeD_em z
theorem wipe_at {i : Nat} : ∀ {vs : List Nat} {σ : L2.St}, i ∉ vs → (L2.wipe σ vs)[i]? = σ[i]? := fun h => wipe_out h
theorem Rel.unwipe {vs : List Nat} {σ : L2.St} (R : Rel K B G (wipeD δ vs) (L2.wipe σ vs) H) : Rel K B G (wipeD δ vs) σ H := by
  refine ⟨by rw [← R.len, wipe_length], R.sg, R.sb, R.dj, fun i c o e1 e2 => ?_, R.ap, R.fr, R.tt⟩
  by_cases h : i ∈ vs
  · rcases wipeD_em (δ := δ) h with z | z
    · rw [z] at e1; cases e1
    · rw [z] at e1; cases e1; trivial
  · exact R.ok i c o e1 (by rw [wipe_at h]; exact e2)
theorem Rel.back {G0 : Hp} {δ0 : DS} {H0 : Hp} {B0 : Hp} (R : Rel K B G δ σ H) (R0 : Rel K B0 G0 δ0 σ H0) (s : Same G0 G) : ∀ vs : List Nat, Rel K B G (backD δ0 δ vs) σ H
  | [] => R
  | v :: vs => by
    have ih := Rel.back R R0 s vs
    have em : Rel K B G ((backD δ0 δ vs).set v .em) σ H := by
      cases hσ : σ[v]? with
      | some o => exact ih.recell hσ trivial fun a m => nomatch m
      | none =>
        have hl : (backD δ0 δ vs).length ≤ v := by
          rw [← ih.len]; exact List.getElem?_eq_none_iff.mp hσ
        rw [List.set_eq_of_length_le hl]; exact ih
    unfold backD
    cases e : δ0[v]? with
    | none => exact em
    | some c =>
      cases c with
      | d x =>
        obtain ⟨o, hσ, w, rfl, dn⟩ := R0.at e
        exact ih.recell hσ ⟨w, rfl, dn.mono s⟩ fun a m => nomatch m
      | _ => exact em
theorem wipe_wipe (σ : L2.St) (vs : List Nat) : L2.wipe (L2.wipe σ vs) vs = L2.wipe σ vs := by
  have h : ∀ (us : List Nat) (σ : L2.St), (∀ u ∈ us, u ∈ vs) → L2.wipe (L2.wipe σ us) vs = L2.wipe σ vs := by
    intro us
    induction us with
    | nil => intro σ _; rfl
    | cons u us ih =>
      intro σ hu
      show L2.wipe ((L2.wipe σ us).set u none) vs = _
      rw [wipe_set (hu u (List.mem_cons_self ..)), ih σ fun x m => hu x (List.mem_cons_of_mem _ m)]
  exact h vs σ fun _ m => m
end
section
variable {X : Cx} {pos : Pos}
theorem jts_nil : JTs X [] tT := ⟨fun pins s σ H Q I ⟨B, G, δ, R, rel, hw, k⟩ => pts_nil.run pins s σ H Q I (k true H G δ hw (Same.refl _) rel)⟩
theorem jts_one {c : Expr} {t : DT} (h : JT X c t) : JTs X [c] t := pts_one h
theorem comp_up {wi : DL} {g : DTG} {t : DT} {e : DE} {ts vs : List Nat} {K : PySem.W.Frag} {σ : L2.St} {H : Hp} {Q : VK} (hts : ∀ t ∈ ts, t ∈ vs) (h : upL K (wComp wi g t e vs) σ H Q) : tLc (upI K wi) (upG K ts g) (upT K t) (up K e) vs σ H Q := by
  obtain ⟨B, G, δ, R, rel, hw, k⟩ := h
  refine ⟨B, G, δ, _, rel, hw, fun J H1 G1 xs δ1 r1 s1 rel1 wk hl D nD => ?_⟩
  have bD := rel1.freeB nD
  refine ⟨fun i m H' => m = xs.length - i ∧ i ≤ xs.length ∧ ∃ accV accD G2 δ2, Same G1 G2 ∧ Rel K (upd B D (.lst accV)) G2 (wipeD δ2 vs) (wipe σ vs) H' ∧ DnL K G2 accV accD ∧ accV.length ≤ i ∧ compIt g t e vs (xs.drop i) accD (wipeD δ2 vs) (fun ys δ2 => R ys (backD δ1 δ2 vs)),
    ⟨xs.length, by simp, Nat.zero_le _, [], [], G1, δ1, Same.refl _, (rel1.growB nD).wipe vs, .nil, Nat.zero_le _, by simpa using r1⟩, ?_⟩
  rintro i m H2 ⟨rfl, hi, accV, accD, G2, δ2, s2, rel2, dacc, hal, q⟩
  obtain ⟨go, stop, yld⟩ := wk _ G2 _ _ H2 s2 rel2
  by_cases hlt : i < xs.length
  · have ed : xs.drop i = xs[i] :: xs.drop (i + 1) := List.drop_eq_getElem_cons hlt
    rw [ed] at q
    refine .inr ⟨go i hlt, fun H' => ∃ accV accD G3 δ3, Same G1 G3 ∧ Rel K (upd B D (.lst accV)) G3 (wipeD δ3 vs) (wipe σ vs) H' ∧ DnL K G3 accV accD ∧ accV.length ≤ i + 1 ∧ compIt g t e vs (xs.drop (i + 1)) accD (wipeD δ3 vs) (fun ys δ2 => R ys (backD δ1 δ2 vs)),
      fun H' ⟨a1, a2, a3, a4, a5, a6, a7, a8, a9⟩ => ⟨xs.length - (i + 1), by omega, rfl, hlt, a1, a2, a3, a4, a5, a6, a7, a8, a9⟩, fun x H3 y => ?_⟩
    obtain ⟨G3, s3, rel3, dn⟩ := yld i x _ H3 (List.getElem?_eq_getElem hlt) y
    refine ⟨_, G3, _, _, _, rel3, dn, q, fun σ4 H4 G4 δ4 r4 s4 rel4 ho => ?_⟩
    have ew : wipe σ4 vs = wipe σ vs := by rw [ho vs hts, wipe_wipe]
    refine ⟨ew, _, G4, δ4, _, rel4, r4, fun b H5 G5 δ5 r5 s5 rel5 => ?_⟩
    cases b with
    | false =>
      rw [if_neg Bool.false_ne_true] at r5 ⊢
      have R6 := rel5.wipe vs
      rw [ew] at R6
      exact ⟨accV, accD, G5, δ5, s2.trans (s3.trans (s4.trans s5)), R6, DnL.mono (s3.trans (s4.trans s5)) _ dacc, by omega, r5⟩
    | true =>
      rw [if_pos rfl] at r5 ⊢
      refine ⟨_, G5, δ5, _, rel5, r5, fun v H6 G6 o δ6 r6 s6 rel6 ok6 => ?_⟩
      obtain ⟨G7, δ7, z, q7, s7, rel7, dz⟩ := lk_ok rel6 ok6 r6
      refine ⟨accV, rel7.sb _ _ upd_same, by omega, accV ++ [v], accD ++ [z], G7, δ7, s2.trans (s3.trans (s4.trans (s5.trans (s6.trans s7)))), ?_, (DnL.mono (s3.trans (s4.trans (s5.trans (s6.trans s7)))) _ dacc).app (.cons dz .nil), by simp; omega, q7⟩
      have R8 := (rel7.putB (p := D) (o := .lst (accV ++ [v])) upd_same notTE_lst).wipe vs
      rw [upd_upd, ew] at R8
      exact R8
  · have e1 : i = xs.length := by omega
    subst e1
    rw [List.drop_length] at q
    refine .inl ⟨stop, ?_⟩
    exact k D accV H2 G2 accD _ q (s1.trans s2) (rel2.unwipe.back rel1 s2 vs) bD dacc
theorem jl_comp {elt tg iter : Expr} {ifs : List Expr} {scope : Scope} {own : List (Str × Nat)} {wi : DL} {g : DTG} {t : DT} {e : DE} {ts : List Nat} (hc : X.calm = true) (hN : X.N.Nodup) (hi : JI X tg iter wi) (ok : BlkOk X.N X.env.scope scope own) (hts : ∀ t ∈ ts, t ∈ own.map (·.2))
    (hg : ∀ (s : Shared) (H : Hp) (C : Addr) (cl : List (Str × Addr)) (fp : List Addr), JG (X.blk s H scope (compEnvC scope cl C X.env) fp) tg ts g) (ht : ∀ (s : Shared) (H : Hp) (C : Addr) (cl : List (Str × Addr)) (fp : List Addr), JTs (X.blk s H scope (compEnvC scope cl C X.env) fp) ifs t)
    (he : ∀ (s : Shared) (H : Hp) (C : Addr) (cl : List (Str × Addr)) (fp : List Addr), JE (X.blk s H scope (compEnvC scope cl C X.env) fp) elt e) (hs : ∀ x, foldedSetIterable iter X.env x = pure x := by intro _; rfl) :
    JL X (.ListComp elt [⟨tg, iter, ifs, 0⟩] scope pos) (wComp wi g t e (own.map (·.2))) :=
  pe_le (pe_lc hc hN hi ok hg ht he hs) fun _ _ _ _ _ _ h => comp_up hts h
theorem upM_l {w : DL} {K : PySem.W.Frag} {σ : L2.St} {H : Hp} {Q : VK} (h : upM K (mL w) σ H Q) : upL K w σ H Q := by
  obtain ⟨B, G, δ, R, rel, hw, k⟩ := h
  refine ⟨B, G, δ, _, rel, hw, fun a vs H1 G1 xs δ1 r1 s1 rel1 hB t => ?_⟩
  have ha : H1 a = some (.lst vs) := rel1.sb _ _ upd_same
  have e : bov B H1 [a] = upd B a (.lst vs) := by
    funext b
    unfold bov upd
    by_cases hb : b = a
    · subst hb; simp [ha]
    · simp [hb]
  exact k (.ref a) H1 G1 (.ol a xs) δ1 (r1 a) s1 (by show Rel K (bov B H1 [a]) G1 δ1 σ H1; rw [e]; exact rel1) (fun b m => by rw [List.mem_singleton.mp m]; exact hB) ⟨rfl, vs, ha, t⟩
theorem js_asg {st : Stmt} {i : Nat} {te : TE} {w : DM} (h : PS X st (tAsg te (gName i))) (l : ∀ σ H Q, upM X.K w σ H Q → te σ H Q) : JS X st (wSet i w) := ps_le h fun pins s σ H D I ⟨B, G, δ, E, rel, hw, k⟩ => by
  refine l σ H _ ⟨B, G, δ, _, rel, hw, fun v H1 G1 c δ1 r1 s1 rel1 hB ok1 => ?_⟩
  have R2 := Rel.store (i := i) (l := []) (by rw [List.append_nil]; exact rel1) hB (fun _ _ m => nomatch m) ok1
  rw [bov_nil] at R2
  exact k.nx _ H1 G1 _ r1 s1 R2
theorem js_setCL {i : Nat} {y : Str} {py spos : Pos} {elt tg iter : Expr} {ifs : List Expr} {scope : Scope} {own : List (Str × Nat)} {wi : DL} {g : DTG} {t : DT} {e : DE} {ts : List Nat} (hc : X.calm = true) (hN : X.N.Nodup) (hy : X.N[i]? = some y) (hyl : X.env.scope.names.lookup y = some .local)
    (hsw : swapsWith (.ListComp elt [⟨tg, iter, ifs, 0⟩] scope pos) (some (.Name y py)) spos.line X.env = pure true) (hi : JI X tg iter wi) (ok : BlkOk X.N X.env.scope scope own) (hts : ∀ t ∈ ts, t ∈ own.map (·.2))
    (hg : ∀ (s : Shared) (H : Hp) (C : Addr) (cl : List (Str × Addr)) (fp : List Addr), JG (X.blk s H scope (compEnvC scope cl C X.env) fp) tg ts g) (ht : ∀ (s : Shared) (H : Hp) (C : Addr) (cl : List (Str × Addr)) (fp : List Addr), JTs (X.blk s H scope (compEnvC scope cl C X.env) fp) ifs t)
    (he : ∀ (s : Shared) (H : Hp) (C : Addr) (cl : List (Str × Addr)) (fp : List Addr), JE (X.blk s H scope (compEnvC scope cl C X.env) fp) elt e) (hs : ∀ x, foldedSetIterable iter X.env x = pure x := by intro _; rfl) :
    JS X (.Assign [.Name y py] (.ListComp elt [⟨tg, iter, ifs, 0⟩] scope pos) spos) (wSet i (mL (wComp wi g t e (own.map (·.2))))) :=
  js_asg (ps_setLc hc hN hy hyl hsw hi ok hg ht he hs) fun σ H Q h => comp_up hts (upM_l h)
def isOl (δ : DS) (i : Nat) : Prop := ∃ a xs, δ[i]? = some (.ol a xs)
def wAppend (i : Nat) (w : DE) : DTS := fun E δ => isOl δ i ∧ w δ fun o δ1 => lk o δ1 fun y δ2 => match δ2[i]? with
  | some (.ol a xs) => xs.length ≤ 1000000 ∧ E.nx (δ2.set i (.ol a (xs ++ [y])))
  | _ => False
theorem js_append {i : Nat} {e : Expr} {x : Str} {w : DE} {px apos cpos : Pos} (hx : PE X (.Name x px) (tVar i)) (he : JE X e w) (hs : swapsWith (.Call (.Attribute (.Name x px) "append" apos) [e] [] cpos) none pos.line X.env = pure false := by rfl) (hsE : starEach [e] X.env = (false, eval e X.env) :: starEach [] X.env := by rfl)
    (hb : PE X (.Call (.Attribute (.Name x px) "append" apos) [e] [] cpos) (tBM X.K "list" rAppend (tVar i) (tCons (up X.K w) tNil))) : JS X (.Expr (.Call (.Attribute (.Name x px) "append" apos) [e] [] cpos) pos) (wAppend i w) :=
  ps_le (ps_expr hb hs) fun pins s σ H D I ⟨B, G, δ, E, rel, ⟨⟨a, xs, hδ⟩, hw⟩, k⟩ => by
    obtain ⟨o, hσ, rfl, vs, ha, t⟩ := rel.at hδ
    refine ⟨.ref a, hσ, .inl ⟨rfl, _, SqL.of ha⟩, B, G, δ, _, rel, hw, fun v H1 G1 o δ1 r1 s1 rel1 ok1 => ?_⟩
    obtain ⟨G2, δ2, y, q, s2, rel2, dn⟩ := lk_ok rel1 ok1 r1
    cases e2 : δ2[i]? with
    | none => rw [e2] at q; exact q.elim
    | some c =>
      rw [e2] at q
      cases c with
      | ol b ys =>
        obtain ⟨o2, hσ2, e3, ws, hb, t2⟩ := rel2.at e2
        rw [hσ] at hσ2
        cases hσ2
        cases e3
        obtain ⟨q1, q2⟩ := q
        refine ⟨a, ws, v, rfl, rfl, hb, by rw [t2.len, sizeLine_eq]; omega, ?_⟩
        exact k.nx _ _ G2 _ q2 (s1.trans s2) (rel2.write e2 (t2.app (.cons dn .nil)))
      | _ => exact q.elim
def wExtend (i : Nat) (w : DE) : DTS := fun E δ => isOl δ i ∧ w δ fun o δ1 => use o δ1 fun y => ∃ ys, y = .list ys ∧ match δ1[i]? with
  | some (.ol a xs) => xs.length + ys.length ≤ 1000000 ∧ E.nx (δ1.set i (.ol a (xs ++ ys)))
  | _ => False
def wPut (i : Nat) (we wi : DE) : DTS := fun E δ => we δ fun o δ1 => lk o δ1 fun y δ2 => isOl δ2 i ∧ wi δ2 fun oj δ3 => use oj δ3 fun j => match j, δ3[i]? with
  | .int j, some (.ol a xs) => ∃ n, ixN xs.length j = some n ∧ E.nx (δ3.set i (.ol a (xs.set n y)))
  | _, _ => False
def wPop (i : Nat) : DE := fun δ R => match δ[i]? with
  | some (.ol a xs) => ∃ y, xs.getLast? = some y ∧ R (.d y) (δ.set i (.ol a xs.dropLast))
  | _ => False
end
end DL
set_option Elab.async false
set_option linter.all false
set_option maxRecDepth 100000
set_option maxHeartbeats 4000000
namespace DL
open PySem PySem.Spec PyProof.Rows L2
variable [Tb]

structure RoomG (k : Nat) (A : Around) : Prop where
  rm : Room k A
  gd : A.guards = some []
theorem RoomG.mono {j k : Nat} {A : Around} (r : RoomG k A) (h : j ≤ k) : RoomG j A := ⟨r.rm.mono h, r.gd⟩
theorem RoomG.deeper {k : Nat} {A : Around} (r : RoomG (k + 1) A) (env : Env) : RoomG k (A.deeper env) := ⟨r.rm.deeper env, r.gd⟩
theorem RoomG.u64 {k : Nat} {A : Around} (r : RoomG k A) : A.units + 64 < cLine := r.rm.units
theorem RoomG.u65 {k : Nat} {A : Around} (r : RoomG k A) : A.units + 65 < cLine := by have := r.rm.un; omega
structure FnG (P : Program) (w : World) (K : PySem.W.Frag) (mg : Str → Option Value) (base : Heap) (CX : CXT) (k : Nat) (f : Addr) (fd : FuncData) (ps : List Str) (sp : Sp) : Prop where
  len (vs : List V) (H : Hp) (Q : VK) (E : XK) (_ : sp vs H Q E) : vs.length = ps.length
  run : ∀ (A : Around) (outer : List Env) (s : Shared) (H : Hp) (args : Args) (us : List Value) (vs : List V) (Q : VK) (E : XK), RoomG k A → Env0 P w K mg base A outer s H →
    BindsTo s fd args (ps.zip us) → Vals vs us → sp vs H Q E → codeAny (model P w) A (.call (.ref f) args) (CR CX outer P w H s Q E) s
section
variable {P : Program} {w : World} {K : PySem.W.Frag} {mg : Str → Option Value} {base : Heap} {CX : CXT}
theorem FnG.mono {j k : Nat} {f : Addr} {fd : FuncData} {ps : List Str} {sp : Sp} (F : FnG P w K mg base CX j f fd ps sp) (h : j ≤ k) : FnG P w K mg base CX k f fd ps sp :=
  ⟨F.len, fun A outer s H args us vs Q E hr => F.run A outer s H args us vs Q E (hr.mono h)⟩
theorem fnG_of {k : Nat} {f : Addr} {name qual : Str} {params : Arguments} {body : List Stmt} {scope : Scope} {dV kV doc pm cdv ct oc : Value} {an od : Option Addr} {osl : Array (Option Value)} {N ps : List Str} {sp : Sp}
    (lk : K.lookup f = some ⟨oc, od, .func (PySem.W.fnOf name qual params body scope dV kV doc pm an cdv ct), osl⟩) (hcd : PySem.W.codeIn K cdv qual = true) (S : FnScope N ps scope) (len : ∀ vs H Q E, sp vs H Q E → vs.length = ps.length)
    (hbody : ∀ (A : Around) (outer : List Env) (s : Shared) (H : Hp) (vs : List V) (Q : VK) (E : XK), RoomG k (A.deeper (envOfC qual scope s.heap.objs.size f cdv)) → sp vs H Q E →
      ∃ t, PSs (cxOf CX P w K mg base N qual scope f cdv A outer s H E) body t ∧ t { nx := fun _ H' => Q .non H', rt := Q } (L2.start N vs) H) : FnG P w K mg base CX (k + 1) f (PySem.W.fnOf name qual params body scope dV kV doc pm an cdv ct) ps sp := by
  refine ⟨len, ?_⟩
  intro A outer s H args us vs Q E room e0 binds r hsp
  have many : vs.length = ps.length := len _ _ _ _ hsp
  have kept : ∀ b o, base.get? b = some o → s.heap.get? b = some o := fun b o e => (e0.bs b o e).1
  have kinds : ∀ y ∈ ps.zip us, scope.names.lookup y.1 = some .local ∨
      (scope.names.lookup y.1 = some .cell ∧ ((cellsFrom (s.heap.objs.size + 1) scope.names []).lookup y.1).isSome = true) := by
    rintro ⟨n, v⟩ m
    rcases S.par n (List.of_mem_zip m).1 with q | q
    · exact .inl q
    · exact .inr ⟨q, PySem.W.cellsFrom_some _ _ _ (.inl q)⟩
  have kin := e0.mod.kin.keeps kept
  refine codeAny_call_function room.rm.depth (kin _ _ lk) rfl S.co S.gen rfl (PySem.W.codeRec_of kin hcd) (binds _ _ _ _ (wpAny_newFunctionEnv_cells S.kind kinds ?_))
  rintro _ rfl s1 made
  obtain ⟨t, body', ht⟩ := hbody A outer s H vs Q E (room.deeper _) hsp
  refine ⟨(e0.mod.nolimit.keeps kept).keeps made.toInCall.keep, codeAny_func (wpAny_mono (body'.run [] s1 (L2.start N vs) H _ (inv_start (CX := CX) (E := E) (N := N) (qual := qual) (f := f) (cd := cdv) S room.rm.hd e0 many r made) ht) ?_ fun _ _ z => z)⟩
  rintro (_ | _ | _ | u) s' g
  · obtain ⟨_, H', J, q⟩ := g; exact ⟨V.non, H', J.os, J.bare, J.base, J.hok, rfl, q⟩
  · exact g.elim fun _ g => g.elim fun _ g => g.2.elim
  · exact g.elim fun _ g => g.elim fun _ g => g.2.elim
  · obtain ⟨v, _, H', J, rv, q⟩ := g; exact ⟨v, H', J.os, J.bare, J.base, J.hok, rv, q⟩
end

abbrev DSp := List Cell → (PyData → List Cell → Prop) → Prop
def liftSp (K : PySem.W.Frag) (sp : DSp) : Sp := fun vs H Q _ => ∃ B G cs R, Rel K B G cs (vs.map some) H ∧ sp cs R ∧ ∀ v H' G' x cs', R x cs' → Same G G' → Rel K B G' cs' (vs.map some) H' → Dn K G' v x → Q v H'
def outC : List Cell → DS → List Cell
  | [], _ => []
  | .d x :: cs, _ :: δ => .d x :: outC cs δ
  | .em :: cs, _ :: δ => .em :: outC cs δ
  | .scr a ns :: cs, _ :: δ => .scr a ns :: outC cs δ
  | .dx a b c xs n ys :: cs, _ :: δ => .dx a b c xs n ys :: outC cs δ
  | _ :: cs, e :: δ => e :: outC cs δ
  | _, [] => []
def sameIo : List Cell → DS → Prop
  | [], _ => True
  | .ol a _ :: cs, e :: δ => (∃ ys, e = .ol a ys) ∧ sameIo cs δ
  | .dk a b c :: cs, e :: δ => e = .dk a b c ∧ sameIo cs δ
  | .dx .. :: cs, e :: δ => False
  | .xc .. :: cs, e :: δ => False
  | .fv .. :: cs, e :: δ => False
  | .od a _ :: cs, e :: δ => (∃ ys, e = .od a ys) ∧ sameIo cs δ
  | .ob a n _ :: cs, e :: δ => (∃ ys, e = .ob a n ys) ∧ sameIo cs δ
  | .gx t :: cs, e :: δ => (∃ u, e = .gx u ∧ u.hd = t.hd) ∧ sameIo cs δ
  | _ :: cs, _ :: δ => sameIo cs δ
  | _ :: _, [] => False
theorem outC_at : ∀ {cs : List Cell} {δ : DS} {i : Nat} {c : Cell}, sameIo cs δ → (outC cs δ)[i]? = some c → ∃ c0, cs[i]? = some c0 ∧ (((∃ x, c0 = .d x) ∨ c0 = .em ∨ ∃ a ns, c0 = .scr a ns) ∧ c = c0 ∨ (∃ a xs ys, c0 = .ol a xs ∧ c = .ol a ys ∧ δ[i]? = some c) ∨ (∃ a b d, c0 = .dk a b d ∧ c = c0 ∧ δ[i]? = some c) ∨ (∃ a xs ys, c0 = .od a xs ∧ c = .od a ys ∧ δ[i]? = some c) ∨ (∃ a n xs ys, c0 = .ob a n xs ∧ c = .ob a n ys ∧ δ[i]? = some c) ∨ (∃ t u, c0 = .gx t ∧ c = .gx u ∧ u.hd = t.hd ∧ δ[i]? = some c))
  | [], _, _, _, _, h => by simp [outC] at h
  | c0 :: cs, [], _, _, s, h => by cases c0 <;> exact s.elim
  | c0 :: cs, e :: δ, 0, c, s, h => by
    refine ⟨c0, rfl, ?_⟩
    cases c0 with
    | em => simp [outC] at h; exact .inl ⟨.inr (.inl rfl), h.symm⟩
    | scr a ns => simp [outC] at h; exact .inl ⟨.inr (.inr ⟨a, ns, rfl⟩), h.symm⟩
    | dx => exact s.elim
    | xc => exact s.elim
    | fv => exact s.elim
    | d x => simp [outC] at h; exact .inl ⟨.inl ⟨x, rfl⟩, h.symm⟩
    | ol a xs => simp [outC] at h; obtain ⟨⟨ys, e1⟩, _⟩ := s; exact .inr (.inl ⟨a, xs, ys, rfl, by rw [← h, e1], by simp [h]⟩)
    | dk a b d => simp [outC] at h; obtain ⟨e1, _⟩ := s; exact .inr (.inr (.inl ⟨a, b, d, rfl, by rw [← h, e1], by simp [h]⟩))
    | od a xs => simp [outC] at h; obtain ⟨⟨ys, e1⟩, _⟩ := s; exact .inr (.inr (.inr (.inl ⟨a, xs, ys, rfl, by rw [← h, e1], by simp [h]⟩)))
    | ob a n xs => simp [outC] at h; obtain ⟨⟨ys, e1⟩, _⟩ := s; exact .inr (.inr (.inr (.inr (.inl ⟨a, n, xs, ys, rfl, by rw [← h, e1], by simp [h]⟩))))
    | gx t => simp [outC] at h; obtain ⟨⟨u, e1, e2⟩, _⟩ := s; exact .inr (.inr (.inr (.inr (.inr ⟨t, u, rfl, by rw [← h, e1], e2, by simp [h]⟩))))
  | c0 :: cs, e :: δ, i + 1, c, s, h => by
    have s' : sameIo cs δ := by cases c0 <;> first | exact s | exact s.2 | exact s.elim
    have h' : (outC cs δ)[i]? = some c := by cases c0 <;> simpa [outC] using h
    obtain ⟨c1, e1, q⟩ := outC_at s' h'
    refine ⟨c1, by simpa using e1, ?_⟩
    simpa using q
theorem outC_len : ∀ {cs : List Cell} {δ : DS}, sameIo cs δ → (outC cs δ).length = cs.length
  | [], _, _ => rfl
  | c0 :: cs, [], s => by cases c0 <;> exact s.elim
  | c0 :: cs, e :: δ, s => by
    have s' : sameIo cs δ := by cases c0 <;> first | exact s | exact s.2 | exact s.elim
    cases c0 <;> simp [outC, outC_len s']
def endsOf (cs : List Cell) (R : PyData → List Cell → Prop) : DEnds := { nx := fun δ => sameIo cs δ ∧ R .none (outC cs δ), rt := fun x δ => sameIo cs δ ∧ R x (outC cs δ) }
def start0 (n : Nat) (cs : List Cell) : DS := cs ++ List.replicate (n - cs.length) .em
section
variable {P : Program} {w : World} {K : PySem.W.Frag} {mg : Str → Option Value} {base : Heap}
theorem rel_start {B G H : Hp} {cs : List Cell} {vs : List V} {N : List Str} (R : Rel K B G cs (vs.map some) H) : Rel K B G (start0 N.length cs) (L2.start N vs) H := by
  have hl : vs.length = cs.length := by have := R.len; simpa using this
  have get : ∀ {i : Nat} {c : Cell}, (start0 N.length cs)[i]? = some c → cs[i]? = some c ∨ c = Cell.em := fun {i c} e => by
    unfold start0 at e
    by_cases hi : i < cs.length
    · rw [List.getElem?_append_left hi] at e; exact .inl e
    · rw [List.getElem?_append_right (by omega), List.getElem?_replicate] at e
      split at e
      · cases e; exact .inr rfl
      · cases e
  refine ⟨by simp [start0, L2.start, hl], R.sg, R.sb, R.dj, fun i c o e1 e2 => ?_, fun i j c c' a e1 e2 m1 m2 => ?_, fun i c a e m => ?_, R.tt⟩
  · rcases get e1 with q | rfl
    · have hi : i < cs.length := (List.getElem?_eq_some_iff.mp q).1
      unfold L2.start at e2
      rw [List.getElem?_append_left (by rw [List.length_map, hl]; exact hi)] at e2
      exact R.ok i c o q e2
    · trivial
  · rcases get e1 with q1 | rfl
    · rcases get e2 with q2 | rfl
      · exact R.ap i j c c' a q1 q2 m1 m2
      · cases m2
    · cases m1
  · rcases get e with q | rfl
    · exact R.fr i c a q m
    · cases m
theorem rel_end {B G G' H H' : Hp} {cs : List Cell} {vs : List V} {δ : DS} {σ : L2.St} (R0 : Rel K B G cs (vs.map some) H) (R : Rel K B G' δ σ H') (s : Same G G') (io : sameIo cs δ) : Rel K B G' (outC cs δ) (vs.map some) H' := by
  refine ⟨by rw [outC_len io, ← R0.len], R.sg, R.sb, R.dj, fun i c o e1 e2 => ?_, fun i j c c' a e1 e2 m1 m2 => ?_, fun i c a e m => ?_, R.tt⟩
  · obtain ⟨c0, e0, q⟩ := outC_at io e1
    have ok0 := R0.ok i c0 o e0 e2
    rcases q with ⟨h, rfl⟩ | ⟨a, xs, ys, rfl, rfl, ed⟩ | ⟨a, b, d, rfl, rfl, ed⟩ | ⟨a, xs, ys, rfl, rfl, ed⟩ | ⟨a, n, xs, ys, rfl, rfl, ed⟩ | ⟨t, u, rfl, rfl, eh, ed⟩
    · rcases h with ⟨x, rfl⟩ | rfl | ⟨a, ns, rfl⟩
      · obtain ⟨v, e, dn⟩ := ok0; exact ⟨v, e, dn.mono s⟩
      · trivial
      · exact ⟨ok0.1, s.seq ok0.2⟩
    · obtain ⟨o', _, _, r⟩ := R.at ed
      exact ⟨ok0.1, r⟩
    · obtain ⟨o', _, _, r⟩ := R.at ed
      exact ⟨ok0.1, r⟩
    · obtain ⟨o', _, _, r⟩ := R.at ed
      exact ⟨ok0.1, r⟩
    · obtain ⟨o', _, _, r⟩ := R.at ed
      exact ⟨ok0.1, r⟩
    · obtain ⟨o', _, _, r⟩ := R.at ed
      exact ⟨by rw [eh]; exact ok0.1, r⟩
  · obtain ⟨c0, e0, q⟩ := outC_at io e1
    obtain ⟨c1, e3, q'⟩ := outC_at io e2
    have h1 : δ[i]? = some c := by
      rcases q with ⟨h, rfl⟩ | ⟨a, xs, ys, rfl, rfl, ed⟩ | ⟨a, b, d, rfl, rfl, ed⟩ | ⟨a, xs, ys, rfl, rfl, ed⟩ | ⟨a, n, xs, ys, rfl, rfl, ed⟩ | ⟨t, u, rfl, rfl, eh, ed⟩
      · rcases h with ⟨x, rfl⟩ | rfl | ⟨a, ns, rfl⟩ <;> cases m1
      · exact ed
      · exact ed
      · exact ed
      · exact ed
      · exact ed
    have h2 : δ[j]? = some c' := by
      rcases q' with ⟨h, rfl⟩ | ⟨a, xs, ys, rfl, rfl, ed⟩ | ⟨a, b, d, rfl, rfl, ed⟩ | ⟨a, xs, ys, rfl, rfl, ed⟩ | ⟨a, n, xs, ys, rfl, rfl, ed⟩ | ⟨t, u, rfl, rfl, eh, ed⟩
      · rcases h with ⟨x, rfl⟩ | rfl | ⟨a, ns, rfl⟩ <;> cases m2
      · exact ed
      · exact ed
      · exact ed
      · exact ed
      · exact ed
    exact R.ap i j c c' a h1 h2 m1 m2
  · obtain ⟨c0, e0, q⟩ := outC_at io e
    have h1 : δ[i]? = some c := by
      rcases q with ⟨h, rfl⟩ | ⟨a, xs, ys, rfl, rfl, ed⟩ | ⟨a, b, d, rfl, rfl, ed⟩ | ⟨a, xs, ys, rfl, rfl, ed⟩ | ⟨a, n, xs, ys, rfl, rfl, ed⟩ | ⟨t, u, rfl, rfl, eh, ed⟩
      · rcases h with ⟨x, rfl⟩ | rfl | ⟨a, ns, rfl⟩ <;> cases m
      · exact ed
      · exact ed
      · exact ed
      · exact ed
      · exact ed
    exact R.fr i c a h1 m
theorem okD {x qual : Str} {st : Stmt} {f : Addr} {fd : FuncData} {N ps : List Str} {k : Nat} {sp : DSp} {wb : DTS} (F : Fun K x qual st f fd) (S : FnScope N ps (defScope st)) (dl : ∀ cs R, sp cs R → cs.length = ps.length)
    (body : ∀ (cdv : Value) (A : Around) (outer : List Env) (s : Shared) (H : Hp) (E : XK), RoomG k (A.deeper (envOfC qual (defScope st) s.heap.objs.size f cdv)) → JSs (cxOf CX0 P w K mg base N qual (defScope st) f cdv A outer s H E).nox (defBody st) wb)
    (rd : ∀ cs R, sp cs R → wb (endsOf cs R) (start0 N.length cs)) : FnG P w K mg base CX0 (k + 1) f fd ps (liftSp K sp) := by
  obtain ⟨oc, od, kV, doc, pm, an, cdv, ct, osl, rfl, lk, hcd⟩ := F.ex
  refine fnG_of lk hcd S (fun vs H Q E ⟨B, G, cs, R, rel, hs, _⟩ => by rw [← dl cs R hs, ← rel.len, List.length_map]) fun A outer s H vs Q E hr ⟨B, G, cs, R, rel, hs, k⟩ => ?_
  refine ⟨_, (body cdv A outer s H E hr).nox, B, G, _, endsOf cs R, rel_start rel, rd cs R hs, ?_⟩
  exact ⟨fun σ' H' G' δ' ⟨io, r⟩ sG rel' => k _ H' G' _ _ r sG (rel_end rel rel' sG io) .non, fun v σ' H' G' x δ' ⟨io, r⟩ sG rel' dn => k v H' G' x _ r sG (rel_end rel rel' sG io) dn, fun _ _ _ _ h => h.elim, fun _ _ _ _ h => h.elim⟩
end

def lkM : List Bool → List Opd → DS → (List Opd → DS → Prop) → Prop
  | _, [], δ, k => k [] δ
  | m, o :: os, δ, k => if m.headD false = true then lkM m.tail os δ fun r δ' => k (o :: r) δ' else lk o δ fun x δ1 => lkM m.tail os δ1 fun r δ' => k (.d x :: r) δ'
def cellOf (δ : DS) : Opd → Cell
  | .d x => .d x
  | .s i => (δ[i]?).getD .em
def putBack : List Opd → List Cell → DS → DS
  | .s i :: os, c :: cs, δ => putBack os cs (δ.set i c)
  | .d _ :: os, _ :: cs, δ => putBack os cs δ
  | _, _, δ => δ
def slotsOf : List Opd → List Nat
  | [] => []
  | .s i :: os => i :: slotsOf os
  | .d _ :: os => slotsOf os
def wCall (m : List Bool) (sp : DSp) (w : DA) : DE := fun δ R => w δ fun os δ1 => lkM m os δ1 fun os' δ2 => (slotsOf os').Nodup ∧ sp (os'.map (cellOf δ2)) fun x cs => R (.d x) (putBack os' cs δ2)
theorem lkM_ok {K : PySem.W.Frag} {B H : Hp} {σ : L2.St} : ∀ {m : List Bool} {vs : List V} {os : List Opd} {G : Hp} {δ : DS} {k : List Opd → DS → Prop}, Rel K B G δ σ H → OpdsOk K G σ vs os → lkM m os δ k → ∃ G' δ' os', k os' δ' ∧ Same G G' ∧ Rel K B G' δ' σ H ∧ OpdsOk K G' σ vs os'
  | _, _, [], G, δ, k, R, h, q => by cases h; exact ⟨G, δ, [], by simpa [lkM] using q, Same.refl _, R, .nil⟩
  | m, _, o :: os, G, δ, k, R, h, q => by
    cases h with
    | cons a b =>
      unfold lkM at q
      split at q
      · obtain ⟨G1, δ1, os', q1, s1, R1, ok1⟩ := lkM_ok R b q
        exact ⟨G1, δ1, o :: os', q1, s1, R1, .cons (a.mono s1) ok1⟩
      · obtain ⟨G1, δ1, x, q1, s1, R1, d1⟩ := lk_ok R a q
        obtain ⟨G2, δ2, os', q2, s2, R2, ok2⟩ := lkM_ok R1 (b.mono s1) q1
        exact ⟨G2, δ2, .d x :: os', q2, s1.trans s2, R2, .cons (Dn.mono s2 _ d1) ok2⟩
theorem mem_slots {os : List Opd} {i : Nat} : i ∈ slotsOf os ↔ ∃ j : Nat, os[j]? = some (Opd.s i) := by
  induction os with
  | nil => simp [slotsOf]
  | cons o os ih =>
    cases o with
    | d x =>
      simp only [slotsOf, ih]
      constructor
      · rintro ⟨j, e⟩; exact ⟨j + 1, by simpa using e⟩
      · rintro ⟨j, e⟩
        cases j with
        | zero => simp at e
        | succ j => exact ⟨j, by simpa using e⟩
    | s i' =>
      simp only [slotsOf, List.mem_cons, ih]
      constructor
      · rintro (rfl | ⟨j, e⟩)
        · exact ⟨0, rfl⟩
        · exact ⟨j + 1, by simpa using e⟩
      · rintro ⟨j, e⟩
        cases j with
        | zero => simp at e; exact .inl e.symm
        | succ j => exact .inr ⟨j, by simpa using e⟩
theorem slots_uniq {os : List Opd} (h : (slotsOf os).Nodup) : ∀ {j k i : Nat}, os[j]? = some (Opd.s i) → os[k]? = some (Opd.s i) → j = k := by
  induction os with
  | nil => intro j k i e; simp at e
  | cons o os ih =>
    intro j k i e1 e2
    have h' : (slotsOf os).Nodup := by
      cases o with
      | d x => exact h
      | s i' => exact (List.nodup_cons.mp h).2
    cases j with
    | zero =>
      cases k with
      | zero => rfl
      | succ k =>
        simp at e1; subst e1
        exact absurd (mem_slots.mpr ⟨k, by simpa using e2⟩) (List.nodup_cons.mp h).1
    | succ j =>
      cases k with
      | zero =>
        simp at e2; subst e2
        exact absurd (mem_slots.mpr ⟨j, by simpa using e1⟩) (List.nodup_cons.mp h).1
      | succ k => exact congrArg (· + 1) (ih (i := i) h' (by simpa using e1) (by simpa using e2))
theorem opds_at {K : PySem.W.Frag} {G : Hp} {σ : L2.St} : ∀ {vs : List V} {os : List Opd} {j : Nat} {o : Opd}, OpdsOk K G σ vs os → os[j]? = some o → ∃ v, vs[j]? = some v ∧ OpdOk K G σ v o
  | _, [], _, _, h, e => by simp at e
  | _, o :: os, 0, _, h, e => by cases h with | cons a b => simp at e; subst e; exact ⟨_, rfl, a⟩
  | _, o :: os, j + 1, x, h, e => by
    cases h with
    | cons a b =>
      obtain ⟨v, h1, h2⟩ := opds_at (j := j) b (by simpa using e)
      exact ⟨v, by simpa using h1, h2⟩
theorem opds_len {K : PySem.W.Frag} {G : Hp} {σ : L2.St} : ∀ {vs : List V} {os : List Opd}, OpdsOk K G σ vs os → vs.length = os.length
  | _, [], h => by cases h; rfl
  | _, o :: os, h => by cases h with | cons a b => simp [opds_len b]
noncomputable def hold (B H : Hp) (δ : DS) (io : List Nat) : Hp := by
  classical
  exact fun a => if ∃ i c, δ[i]? = some c ∧ a ∈ c.fp ∧ i ∉ io then H a else B a
section
variable {K : PySem.W.Frag} {B G H : Hp} {δ : DS} {σ : L2.St} {io : List Nat} {a : Addr}
theorem hold_in (h : ∃ i c, δ[i]? = some c ∧ a ∈ c.fp ∧ i ∉ io) : hold B H δ io a = H a := by unfold hold; exact if_pos h
theorem hold_out (h : ¬ ∃ i c, δ[i]? = some c ∧ a ∈ c.fp ∧ i ∉ io) : hold B H δ io a = B a := by unfold hold; exact if_neg h
theorem call_rel {vs : List V} {os : List Opd} (R : Rel K B G δ σ H) (ok : OpdsOk K G σ vs os) (nd : (slotsOf os).Nodup) : Rel K (hold B H δ (slotsOf os)) G (os.map (cellOf δ)) (vs.map some) H := by
  have getc : ∀ {j : Nat} {c : Cell}, (os.map (cellOf δ))[j]? = some c → ∃ o, os[j]? = some o ∧ c = cellOf δ o := fun {j c} e => by
    rw [List.getElem?_map] at e
    cases h : os[j]? with
    | none => rw [h] at e; cases e
    | some o => rw [h] at e; cases e; exact ⟨o, rfl, rfl⟩
  have own : ∀ {j : Nat} {c : Cell} {a : Addr}, (os.map (cellOf δ))[j]? = some c → a ∈ c.fp → ∃ i, os[j]? = some (.s i) ∧ δ[i]? = some c := fun {j c a} e m => by
    obtain ⟨o, e1, rfl⟩ := getc e
    cases o with
    | d x => cases m
    | s i =>
      refine ⟨i, e1, ?_⟩
      have m' : a ∈ ((δ[i]?).getD Cell.em).fp := m
      show δ[i]? = some ((δ[i]?).getD Cell.em)
      cases h : δ[i]? with
      | none => rw [h] at m'; cases m'
      | some c => rfl
  refine ⟨by simp [opds_len ok], R.sg, fun a o e => ?_, fun a => ?_, fun j c o e1 e2 => ?_, fun j k c c' a e1 e2 m1 m2 => ?_, fun j c a e m => ?_, ⟨R.tt.t, ⟨fun a o e => ?_, R.tt.n.g⟩⟩⟩
  · by_cases h : ∃ i c, δ[i]? = some c ∧ a ∈ c.fp ∧ i ∉ slotsOf os
    · rw [hold_in h] at e; exact e
    · rw [hold_out h] at e; exact R.sb _ _ e
  · by_cases h : ∃ i c, δ[i]? = some c ∧ a ∈ c.fp ∧ i ∉ slotsOf os
    · obtain ⟨i, c, h1, h2, _⟩ := h
      exact .inl (R.fr i c a h1 h2).1
    · rw [hold_out h]; exact R.dj a
  · obtain ⟨od, e3, rfl⟩ := getc e1
    obtain ⟨v, e4, okv⟩ := opds_at ok e3
    rw [List.getElem?_map, e4] at e2
    cases e2
    cases od with
    | d x => exact ⟨v, rfl, okv⟩
    | s i =>
      have hσ : σ[i]? = some (some v) := okv
      show CellOk K G H ((δ[i]?).getD Cell.em) (some v)
      cases h : δ[i]? with
      | none => trivial
      | some c => exact R.ok i c _ h hσ
  · obtain ⟨i, h1, h2⟩ := own e1 m1
    obtain ⟨i', h3, h4⟩ := own e2 m2
    have := R.ap i i' c c' a h2 h4 m1 m2
    subst this
    exact slots_uniq nd h1 h3
  · obtain ⟨i, h1, h2⟩ := own e m
    obtain ⟨f1, f2⟩ := R.fr i c a h2 m
    refine ⟨f1, ?_⟩
    rw [hold_out]
    · exact f2
    · rintro ⟨i', c', h3, h4, h5⟩
      have := R.ap i i' c c' a h2 h3 m h4
      subst this
      exact h5 (mem_slots.mpr ⟨j, h1⟩)
  · by_cases h : ∃ i c, δ[i]? = some c ∧ a ∈ c.fp ∧ i ∉ slotsOf os
    · rw [hold_in h] at e
      obtain ⟨i, c, h1, h2, _⟩ := h
      obtain ⟨ov, _, okc⟩ := R.at h1
      exact cell_te okc h2 o e
    · rw [hold_out h] at e; exact R.tt.n.b _ _ e
theorem putBack_at : ∀ {os : List Opd} {cs : List Cell} {δ : DS} {i : Nat} {c : Cell}, os.length = cs.length → (slotsOf os).Nodup → (putBack os cs δ)[i]? = some c → (i ∉ slotsOf os ∧ δ[i]? = some c) ∨ ∃ j : Nat, os[j]? = some (Opd.s i) ∧ cs[j]? = some c
  | [], cs, δ, i, c, hl, nd, h => by unfold putBack at h; exact .inl ⟨(fun m => nomatch m), h⟩
  | o :: os, [], δ, i, c, hl, nd, h => by simp at hl
  | .d x :: os, c0 :: cs, δ, i, c, hl, nd, h => by
    rcases putBack_at (os := os) (cs := cs) (by simpa using hl) nd (by simpa [putBack] using h) with ⟨h1, h2⟩ | ⟨j, h1, h2⟩
    · exact .inl ⟨h1, h2⟩
    · exact .inr ⟨j + 1, by simpa using h1, by simpa using h2⟩
  | .s i0 :: os, c0 :: cs, δ, i, c, hl, nd, h => by
    rcases putBack_at (os := os) (cs := cs) (by simpa using hl) (List.nodup_cons.mp nd).2 (by simpa [putBack] using h) with ⟨h1, h2⟩ | ⟨j, h1, h2⟩
    · by_cases hi : i0 = i
      · subst hi
        rw [List.getElem?_set] at h2
        simp only [if_true] at h2
        split at h2
        · cases h2; exact .inr ⟨0, rfl, rfl⟩
        · cases h2
      · rw [List.getElem?_set_ne hi] at h2
        exact .inl ⟨fun m => by rcases List.mem_cons.mp m with z | z; exact hi z.symm; exact h1 z, h2⟩
    · exact .inr ⟨j + 1, by simpa using h1, by simpa using h2⟩
theorem putBack_len : ∀ {os : List Opd} {cs : List Cell} {δ : DS}, (putBack os cs δ).length = δ.length
  | [], cs, δ => by simp [putBack]
  | .d _ :: os, [], δ => by rfl
  | .s _ :: os, [], δ => by rfl
  | .d _ :: os, c :: cs, δ => by simp [putBack, putBack_len]
  | .s _ :: os, c :: cs, δ => by simp [putBack, putBack_len]
theorem call_back {G' H' : Hp} {vs : List V} {os : List Opd} {cs : List Cell} (R : Rel K B G δ σ H) (ok : OpdsOk K G σ vs os) (nd : (slotsOf os).Nodup) (s : Same G G') (R' : Rel K (hold B H δ (slotsOf os)) G' cs (vs.map some) H') : Rel K B G' (putBack os cs δ) σ H' := by
  have hlen : os.length = cs.length := by rw [← opds_len ok, ← R'.len, List.length_map]
  have sb : Same B H' := fun a o e => by
    by_cases h : ∃ i c, δ[i]? = some c ∧ a ∈ c.fp ∧ i ∉ slotsOf os
    · obtain ⟨i, c, h1, h2, _⟩ := h
      rw [(R.fr i c a h1 h2).2] at e; cases e
    · exact R'.sb a o (by rw [hold_out h]; exact e)
  have keep : ∀ {i : Nat} {c : Cell} {a : Addr}, i ∉ slotsOf os → δ[i]? = some c → a ∈ c.fp → H' a = H a ∧ hold B H δ (slotsOf os) a = H a := fun {i c a} h1 h2 h3 => by
    have e := hold_in (B := B) (H := H) ⟨i, c, h2, h3, h1⟩
    obtain ⟨o, eo⟩ := R.tr h2 h3
    exact ⟨by rw [R'.sb a o (by rw [e]; exact eo), eo], e⟩
  refine ⟨by rw [putBack_len]; exact R.len, R'.sg, sb, fun a => ?_, fun i c o e1 e2 => ?_, fun i k c c' a e1 e2 m1 m2 => ?_, fun i c a e m => ?_, ⟨R'.tt.t, ⟨R.tt.n.b, R'.tt.n.g⟩⟩⟩
  · by_cases h : ∃ i c, δ[i]? = some c ∧ a ∈ c.fp ∧ i ∉ slotsOf os
    · obtain ⟨i, c, h1, h2, _⟩ := h
      exact .inr (R.fr i c a h1 h2).2
    · have := R'.dj a
      rw [hold_out h] at this; exact this
  · rcases putBack_at hlen nd e1 with ⟨h1, h2⟩ | ⟨j, h1, h2⟩
    · exact (R.ok i c o h2 e2).stay s fun a m => (keep h1 h2 m).1
    · obtain ⟨v, h3, h4⟩ := opds_at ok h1
      have h5 : σ[i]? = some (some v) := h4
      rw [h5] at e2; cases e2
      exact R'.ok j c (some v) h2 (by rw [List.getElem?_map, h3]; rfl)
  · rcases putBack_at hlen nd e1 with ⟨h1, h2⟩ | ⟨j, h1, h2⟩
    · rcases putBack_at hlen nd e2 with ⟨h3, h4⟩ | ⟨j', h3, h4⟩
      · exact R.ap i k c c' a h2 h4 m1 m2
      · obtain ⟨_, f2⟩ := R'.fr j' c' a h4 m2
        rw [(keep h1 h2 m1).2] at f2
        obtain ⟨o, eo⟩ := R.tr h2 m1
        rw [eo] at f2; cases f2
    · rcases putBack_at hlen nd e2 with ⟨h3, h4⟩ | ⟨j', h3, h4⟩
      · obtain ⟨_, f2⟩ := R'.fr j c a h2 m1
        rw [(keep h3 h4 m2).2] at f2
        obtain ⟨o, eo⟩ := R.tr h4 m2
        rw [eo] at f2; cases f2
      · have := R'.ap j j' c c' a h2 h4 m1 m2
        subst this
        rw [h1] at h3; cases h3; rfl
  · rcases putBack_at hlen nd e with ⟨h1, h2⟩ | ⟨j, h1, h2⟩
    · obtain ⟨f1, f2⟩ := R.fr i c a h2 m
      refine ⟨?_, f2⟩
      rcases R'.dj a with z | z
      · exact z
      · rw [(keep h1 h2 m).2] at z
        obtain ⟨o, eo⟩ := R.tr h2 m
        rw [eo] at z; cases z
    · obtain ⟨f1, f2⟩ := R'.fr j c a h2 m
      refine ⟨f1, ?_⟩
      by_cases h : ∃ i c, δ[i]? = some c ∧ a ∈ c.fp ∧ i ∉ slotsOf os
      · obtain ⟨i', c', h3, h4, _⟩ := h
        exact (R.fr i' c' a h3 h4).2
      · rw [hold_out h] at f2; exact f2
end
section
variable {X : Cx} {CX : CXT} {k : Nat} {f : Addr} {fd : FuncData} {ps : List Str} {x : Str} {p pos : Pos} {e : Expr} {es : List Expr}
theorem run_fnG {sp : Sp} {E : XK} {pins : List (Addr × Obj)} {σ : L2.St} {H : Hp} {s : Shared} {Q : VK} {us : List Value} {vs : List V} (F : FnG X.prog X.w X.K X.mg X.base CX k f fd ps sp) (hr : RoomG k X.A) (hb : Binds X.K fd ps []) (hx : Passes CX X E)
    (I : Inv X pins σ H s) (r : Vals vs us) (h : sp vs H Q E) : wpAny (model X.prog X.w) X.A (call (.ref f) us) (EP X pins σ Q) X.xe s := by
  have many : (us ++ []).length = ps.length := (List.append_nil us).symm ▸ r.length.symm.trans (F.len _ _ _ _ h)
  have bound : BindsTo s fd ⟨us, []⟩ (ps.zip us) := by have := hb s us I.kIn many; rwa [List.append_nil] at this
  refine wpAny_call (codeAny_mono (F.run X.A X.stack s H ⟨us, []⟩ us vs Q E hr I.env0 bound r h) ?_)
  rintro (err | _ | _ | _ | u) z back <;> first | exact hx pins σ H s err z I back | exact False.elim back | exact I.after back
theorem pe_callG {sp : Sp} {E : XK} {t : TA} (F : FnG X.prog X.w X.K X.mg X.base CX k f fd ps sp) (hr : RoomG k X.A) (hg : Gl X x) (hm : X.mg x = some (.ref f)) (hk : PySem.W.keepIn X.K (.ref f) = true) (hb : Binds X.K fd ps []) (hx : Passes CX X E)
    (ha : PA X (e :: es) t) (hdb : (x == ("__debug__" : Str)) = false := by decide) (he : starEach (e :: es) X.env = (false, eval e X.env) :: starEach es X.env := by rfl) (hpl : (backTo pos (starEach es X.env)).any (·.1) = false := by rfl) : PE X (.Call (.Name x p) (e :: es) [] pos) (tCall sp [] E t) := by
  exact ⟨fun pins s σ H Q I h => wpAny_Call_Name_kw (ld_glob I hg hm (PySem.W.callWith_K (h₀ := X.base) I.ok.mod.kin hk (wpAny_mono (ha.run pos pins s σ H _ I h)
    (fun us z ⟨vs, H1, I1, r, q⟩ => ⟨I1.kIn, run_fnG F hr hb hx I1 r (by have q : sp (vs ++ []) H1 Q E := q; rwa [List.append_nil] at q)⟩) fun _ _ z => z) he hpl) hdb)⟩
theorem je_call {m : List Bool} {sp : DSp} {w : DA} (F : FnG X.prog X.w X.K X.mg X.base CX0 k f fd ps (liftSp X.K sp)) (hr : RoomG k X.A) (hg : Gl X x) (hm : X.mg x = some (.ref f)) (hk : PySem.W.keepIn X.K (.ref f) = true) (hb : Binds X.K fd ps [])
    (ha : JA X (e :: es) w) (hdb : (x == ("__debug__" : Str)) = false := by decide) (he : starEach (e :: es) X.env = (false, eval e X.env) :: starEach es X.env := by rfl) (hpl : (backTo pos (starEach es X.env)).any (·.1) = false := by rfl) : JE X (.Call (.Name x p) (e :: es) [] pos) (wCall m sp w) :=
  pe_le (pe_callG (E := E0) F hr hg hm hk hb pass0 ha hdb he hpl) fun pins s σ H Q I ⟨B, G, δ, R, rel, hw, k⟩ => ⟨B, G, δ, _, rel, hw, fun vs H1 G1 os δ1 r1 s1 rel1 ok1 => by
    obtain ⟨G2, δ2, os', ⟨nd, q⟩, s2, rel2, ok2⟩ := lkM_ok rel1 ok1 r1
    rw [List.append_nil]
    exact ⟨_, G2, _, _, call_rel rel2 ok2 nd, q, fun v H' G' z cs r s3 rel3 dn => k v H' G' _ _ r (s1.trans (s2.trans s3)) (call_back rel2 ok2 nd s3 rel3) dn⟩⟩
end
end DL
set_option Elab.async false
set_option linter.all false
set_option maxRecDepth 100000
set_option maxHeartbeats 4000000
namespace DL
open PySem PySem.Spec PyProof.Rows L2
variable [Tb]

inductive Src where
  | l (a : Addr)
  | t (a : Addr)
def Src.ad : Src → Addr
  | .l a => a
  | .t a => a
def Src.is (h : Heap) (its : Array Value) : Src → Prop
  | .l a => h.IsList a its
  | .t a => h.IsTuple a its
def Src.iter (h : Heap) (it : Addr) (n : Nat) : Src → Prop
  | .l a => h.IsListIter it a n
  | .t a => h.IsTupleIter it a n
def Src.ob : Src → Obj
  | .l a => { cls := .type "list_iterator", data := .fields #[.ref a, .int 0 0] }
  | .t a => { cls := .type "tuple_iterator", data := .fields #[.ref a, .int 0 0] }
def SrcOk (K : PySem.W.Frag) (H : Hp) (S : Src) (xs : List V) : Prop := match S with
  | .l a => SqL K H a xs
  | .t a => SqT K H a xs
theorem Src.draws {prog : Program} {w : World} {A : Around} (hh : A.handled = none) (S : Src) (it : Addr) (hne : S.ad ≠ it) (items : Array Value) :
    Draws prog w A it [it, S.ad] items.size (fun i v => items[i]? = some v) (fun i h => S.iter h it i ∧ S.is h items) := by
  cases S with
  | l a => exact Draws.list hh it a hne items
  | t a => exact Draws.tuple hh it a hne items
theorem Src.begins (S : Src) (items : Array Value) : Begins (.ref S.ad) S.ob fun h => S.is h items := by
  cases S with
  | l a => exact begins_list a items
  | t a => exact begins_tuple a items
theorem Src.lt {S : Src} {h : Heap} {its : Array Value} (x : S.is h its) : S.ad < h.objs.size := by
  cases S with
  | l a => obtain ⟨o, e, _⟩ := x; exact Heap.lt_size e
  | t a => obtain ⟨o, e, _⟩ := x; exact Heap.lt_size e
theorem Src.iter_keep {S : Src} {h h' : Heap} {it : Addr} {n : Nat} (x : S.iter h it n) (k : ∀ o, h.get? it = some o → h'.get? it = some o) : S.iter h' it n := by
  cases S with
  | l a => exact Heap.IsListIter.at x k
  | t a => exact Heap.IsTupleIter.at x k
theorem Src.iter_of {S : Src} {h : Heap} {it : Addr} (e : h.get? it = some S.ob) : S.iter h it 0 := by
  cases S with
  | l a => exact ⟨_, e, rfl, rfl⟩
  | t a => exact ⟨_, e, rfl, rfl⟩
theorem Src.iter_obj {S : Src} {h : Heap} {it : Addr} {n : Nat} (x : S.iter h it n) : ∃ o, h.get? it = some o ∧ ∀ v, o.data ≠ .cell v := by
  cases S with
  | l a => obtain ⟨o, e, c, d⟩ := x; exact ⟨o, e, fun v z => by rw [d] at z; cases z⟩
  | t a => obtain ⟨o, e, c, d⟩ := x; exact ⟨o, e, fun v z => by rw [d] at z; cases z⟩
theorem src_get {X : Cx} {pins : List (Addr × Obj)} {σ : L2.St} {H : Hp} {s : Shared} {S : Src} {xs : List V} (I : Inv X pins σ H s) (h : SrcOk X.K H S xs) : ∃ its : List Value, Vals xs its ∧ S.is s.heap its.toArray ∧ xs.length ≤ sizeLine := by
  cases S with
  | l a => obtain ⟨its, rv, p, hz⟩ := I.list h; exact ⟨its, rv, p.isList, hz⟩
  | t a => obtain ⟨its, rv, p, hz⟩ := I.tuple h; exact ⟨its, rv, p, hz⟩
theorem src_inj {X : Cx} {pins : List (Addr × Obj)} {σ : L2.St} {H : Hp} {s : Shared} {S : Src} {xs ys : List V} (I : Inv X pins σ H s) (h : SrcOk X.K H S xs) (h' : SrcOk X.K H S ys) : xs = ys := by
  cases S with
  | l a => exact I.list_inj h h'
  | t a => exact I.tuple_inj h h'
def Sits (ch : List Addr) (h : Heap) : Prop := ∀ b ∈ ch, ∃ o, h.get? b = some o ∧ ∀ v, o.data ≠ .cell v
theorem Sits.nil {h : Heap} : Sits [] h := fun _ m => nomatch m
theorem Sits.put {b : Addr} {ch : List Addr} {h : Heap} {o : Obj} (e : h.get? b = some o) (n : ∀ v, o.data ≠ .cell v) (t : Sits ch h) : Sits (b :: ch) h :=
  List.forall_mem_cons.mpr ⟨⟨o, e, n⟩, t⟩
theorem Sits.src {S : Src} {b : Addr} {ch : List Addr} {h : Heap} {n : Nat} (e : S.iter h b n) (t : Sits ch h) : Sits (b :: ch) h :=
  List.forall_mem_cons.mpr ⟨Src.iter_obj e, t⟩
theorem row_laid {X : Cx} {pins : List (Addr × Obj)} {σ : L2.St} {H : Hp} {s : Shared} {ch : List Addr} {h' : Heap} {tk : Nat} {row : List V} {us : List Value}
    (I : Inv X pins σ H s) (own : ∀ b ∈ ch, FpOk X pins H b) (sit : Sits ch s.heap) (same : ∀ b o, b ∉ ch → s.heap.get? b = some o → h'.get? b = some o)
    (short : row.length ≤ sizeLine) (r : Vals row us) (top : h'.get? s.heap.objs.size = some { cls := .type "tuple", data := .seq us.toArray }) :
    Inv X pins σ (upd H s.heap.objs.size (tupH (tupO us) row)) { s with heap := h', toks := tk } ∧ H s.heap.objs.size = none ∧ ∀ b ∈ ch, upd H s.heap.objs.size (tupH (tupO us) row) b = none := by
  refine ⟨I.turnedNew same own (Nat.le_refl _) (tupH_ok top rfl rfl short r), I.hok.fresh (Nat.le_refl _), fun b m => ?_⟩
  obtain ⟨o, at_b, _⟩ := sit b m
  exact (upd_ne (Nat.ne_of_lt (Heap.lt_size at_b))).trans (own b m).1
theorem all_new {X : Cx} {pins : List (Addr × Obj)} {σ : L2.St} {H : Hp} {s : Shared} (I : Inv X pins σ H s) (ks : List Nat) : ∀ b ∈ ks.map (s.heap.objs.size + ·), FpOk X pins H b := fun b m => by
  obtain ⟨k, _, rfl⟩ := List.mem_map.mp m
  exact I.fpOk (Nat.le_add_right _ k) (I.hok.fresh (Nat.le_add_right _ k))
theorem src_item {X : Cx} {pins : List (Addr × Obj)} {σ : L2.St} {H : Hp} {s : Shared} {S : Src} {xs : List V} {i : Nat} {x : V} (I : Inv X pins σ H s) (h : SrcOk X.K H S xs) (e : xs[i]? = some x) :
    ∃ (its : Array Value) (u : Value), S.is s.heap its ∧ i < its.size ∧ (∀ y, its[i]? = some y → y = u) ∧ RelV x u ∧ ∀ ys, SrcOk X.K H S ys → ys[i]? = some x := by
  obtain ⟨its, rv, at_s, _⟩ := src_get I h
  obtain ⟨u, eu, ru⟩ := rv.get e
  refine ⟨its.toArray, u, at_s, ?_, fun y ey => ?_, ru, fun ys h2 => src_inj I h2 h ▸ e⟩
  · rw [List.size_toArray]; exact (List.getElem?_eq_some_iff.mp eu).1
  · rw [List.getElem?_toArray, eu] at ey; exact (Option.some.inj ey).symm
theorem src_all {X : Cx} {pins : List (Addr × Obj)} {σ : L2.St} {H : Hp} {s : Shared} {S : Src} {xs : List V} (I : Inv X pins σ H s) (h : SrcOk X.K H S xs) :
    ∃ its : Array Value, S.is s.heap its ∧ its.size = xs.length := by
  obtain ⟨its, rv, at_s, _⟩ := src_get I h
  exact ⟨its.toArray, at_s, by rw [List.size_toArray]; exact rv.length.symm⟩
theorem pi_class {X : Cx} {tg e : Expr} {es : List Expr} {ta : TA} {p pos : Pos} {x : Str} {T : String} {W : List V → Hp → (It → Hp → Prop) → Prop} (hg : Gl X x) (hm : X.mg x = none) (hb : bootBuiltins x = some (.type T)) (ha : PA X (e :: es) ta)
    (hs : starEach (e :: es) X.env = (false, eval e X.env) :: starEach es X.env) (hpl : (backTo pos (starEach es X.env)).any (·.1) = false) (hx : x ≠ "__name__") (hd : (x == ("__debug__" : Str)) = false)
    (k : ∀ (pins : List (Addr × Obj)) (s : Shared) (σ : L2.St) (H : Hp) (R : It → Hp → Prop) (vs : List V) (us : List Value), Inv X pins σ H s → Vals vs us → W vs H R →
      wpAny (model X.prog X.w) X.A (call (.type T) us) (fun v s1 => wpAny (model X.prog X.w) X.A (pyIter v) (PIE X pins σ tg R) X.xe s1) X.xe s) :
    PI X tg (.Call (.Name x p) (e :: es) [] pos) (fun σ H R => ta σ H fun vs H1 => W vs H1 R) where
  run pins s σ H R I h := Call_ (ld_blt I hg hm hb (PyProof.Rows.callWith_type1 (wpAny_mono (ha.run pos pins s σ H _ I h)
    (fun us _ ⟨vs, H1, I1, r, q⟩ => k pins _ σ H1 R vs us I1 r q) fun _ _ z => z) hs hpl) hx hd)

def Ien (K : PySem.W.Frag) (S : Src) : It :=
  ⟨fun i H => ∃ xs x, SrcOk K H S xs ∧ xs[i]? = some x,
   fun i H v H' => ∃ (p : Addr) (o : Obj) (x : V), o.dict = none ∧ v = .ref p ∧ H p = none ∧ H' = upd H p (tupH o [.int (i : Nat), x]) ∧ ∀ xs, SrcOk K H S xs → xs[i]? = some x,
   fun i H => ∃ xs, SrcOk K H S xs ∧ i = xs.length⟩
theorem turn_en {P : Program} {w : World} {K : PySem.W.Frag} {elts : List Expr} {kk : Nat} {tpos : Pos} {S : Src} {e it : Addr} (n1 : S.ad ≠ it) (n2 : e ≠ it) (n3 : e ≠ S.ad) :
    Turn P w K (.Tuple elts kk tpos) (Ien K S) [e, it] e (fun i h => (∃ old, IsEnum h e it ((i : Nat) : Int) old) ∧ S.iter h it i) := by
  have sit : ∀ {i : Nat} {h : Heap} {c : Int} {old : Value}, IsEnum h e it c old → S.iter h it i → Sits [e, it] h := fun he h1 => .put he nofun (.src h1 .nil)
  refine ⟨List.mem_cons_self, fun i h ⟨⟨_, he⟩, h1⟩ => sit he h1, ?_, ?_, ?_, fun _ _ _ _ _ ⟨⟨_, he⟩, _⟩ => wpAny_pyIter_enum he⟩
  · rintro i h h' ⟨⟨old, he⟩, h1⟩ k
    exact ⟨⟨old, k e (by simp) _ he⟩, Src.iter_keep h1 (k it (by simp))⟩
  · rintro X rfl rfl rfl hc i pins s σ H E I own ⟨⟨old, he⟩, h1⟩ ⟨xs, x, ox, ex⟩
    obtain ⟨as, u1, at1, l1, val1, r1, same1⟩ := src_item I ox ex
    refine wpAny_pyNext_enum_itemD (Src.draws (A := X.A.in1) (I.ok.hd hc) S it n1 as) he ⟨h1, at1⟩ l1 n2 (by simp [n2, n3]) fun y g tk ey go g1 top _ kept => ⟨_, rfl, ?_⟩
    cases val1 _ ey
    refine wpAny_letOwnedTupleGo_enum (s := { s with heap := g, toks := tk + 1 }) go fun g' ge' but => ?_
    have old' : e ≠ s.heap.objs.size := Nat.ne_of_lt (Heap.lt_size he)
    obtain ⟨I', new, none'⟩ := row_laid (h' := g') (tk := tk + 1) (row := [.int (i : Nat), x]) I own (sit he h1)
      (fun c o m q => by
        simp only [List.mem_cons, List.not_mem_nil, or_false, not_or] at m
        exact (but.2 c m.1).trans (kept c o m.1 m.2 q))
      (show 2 ≤ sizeLine by decide) (.cons ⟨tk, rfl⟩ (.cons r1 .nil)) ((but.2 _ old'.symm).trans top)
    exact ⟨.ref s.heap.objs.size, _, I', rfl, ⟨_, _, x, rfl, rfl, new, rfl, same1⟩, ⟨⟨_, by rw [Int.natCast_succ]; exact ge'⟩, Src.iter_keep g1.1 fun o q => (but.2 it n2.symm).trans q⟩, none'⟩
  · rintro X rfl rfl rfl hc i pins s σ H E I own ⟨⟨old, he⟩, h1⟩ ⟨xs, ox, rfl⟩
    obtain ⟨as, at1, s1⟩ := src_all I ox
    rw [← s1] at h1
    refine wpAny_pyNext_enum_endD (Src.draws (A := X.A.in1) (I.ok.hd hc) S it n1 as) he ⟨h1, at1⟩ fun g kept => ⟨rfl, ?_⟩
    exact I.turnedL (t' := s.toks) (fun c o m => kept c o fun z => m (z ▸ List.mem_cons_of_mem _ List.mem_cons_self)) own
theorem enum_made {v : Value} {o : Obj} {Q : Heap → Prop} (B : Begins v o Q) :
    Meets (Builtin.«enumerate.__new__» ⟨[.type "enumerate", v], []⟩) (fun _ R s => Q s.heap ∧
      R (.ok (.ret (.ref (s.heap.push o).objs.size))) { s with heap := (s.heap.push o).push { cls := .type "enumerate", data := .fields #[.none, .bool false, .ref s.heap.objs.size, rawInt 0, .none, .none] } }) := by
  refine .of_wp fun prog w A R => ?_
  rintro ⟨hp, gs, dr, tk, os⟩ ⟨at_v, h⟩
  have begun {A' : Around} {E G : Value → Shared → Prop} : G (.ref hp.objs.size) ⟨hp.push o, gs, dr, tk, os⟩ → wpAny (model prog w) A' (pyIter v) G E ⟨hp, gs, dr, tk, os⟩ := B.iter prog w _ _ ⟨hp, gs, dr, tk, os⟩ _ at_v
  have sub := sub_enumerate
  wp_walk using begun
  refine wpAny_stack_any fun _ => wpAny_pure ?_
  split
  next c _ _ _ _ _ => cases (c == Value.type "enumerate") <;> (wp_walk using begun; exact ⟨_, rfl, h⟩)
  next => wp_walk using begun; exact ⟨_, rfl, h⟩
theorem enum_starts {prog : Program} {w : World} {A : Around} {E : Value → Shared → Prop} {s : Shared} {v : Value} {o : Obj} {P : Heap → Prop} {Q : Value → Shared → Prop} (B : Begins v o P) (at_v : P s.heap)
    (k : ∀ h', IsEnum h' (s.heap.objs.size + 1) s.heap.objs.size 0 .none → h'.get? s.heap.objs.size = some o → (∀ b u, s.heap.get? b = some u → h'.get? b = some u) → Q (.ref (s.heap.objs.size + 1)) { s with heap := h' }) :
    wpAny (model prog w) A (call (.type "enumerate") [v]) Q E s := by
  refine callType_new F.called_enumerate (by decide) (F.typeCall_enumerate_1 _) (F.newCall_enumerate_1 _) (F.args_object_init_2 · _) F.entry_enumerate_new (enum_made B) ⟨at_v, ?_⟩
  have up : (s.heap.push o).objs.size = s.heap.objs.size + 1 := Heap.size_push _ _
  have at_e := Heap.get?_push_size (s.heap.push o) (o := { cls := .type "enumerate", data := .fields #[.none, .bool false, .ref s.heap.objs.size, rawInt 0, .none, .none] }) rfl
  rw [up] at at_e
  show _ ∧ _
  rw [up]
  exact ⟨⟨_, at_e, rfl⟩, k _ at_e (Heap.get?_push_of_some _ (Heap.get?_push_size _ B.free)) fun b u q => Heap.get?_push_of_some _ (Heap.get?_push_of_some _ q)⟩
def iEn (K : PySem.W.Frag) (ta : TA) : TI := fun σ H R => ta σ H fun vs H1 => ∃ S xs, vs = [.ref S.ad] ∧ SrcOk K H1 S xs ∧ (xs.length ≤ sizeLine → R (Ien K S) H1)
theorem pi_en {X : Cx} {e : Expr} {ta : TA} {p pos tpos : Pos} {elts : List Expr} {kk : Nat} (hg : Gl X "enumerate") (hm : X.mg "enumerate" = none) (ha : PA X [e] ta) (hs : starEach [e] X.env = [(false, eval e X.env)] := by rfl) :
    PI X (.Tuple elts kk tpos) (.Call (.Name "enumerate" p) [e] [] pos) (iEn X.K ta) :=
  pi_class hg hm boot_enumerate ha hs rfl (by decide) (by decide) fun pins s σ H R vs us I r ⟨S, xs, ev, ox, q⟩ => by
    subst ev
    obtain _ | ⟨rfl, _ | _⟩ := r
    obtain ⟨as, at1, _⟩ := src_all I ox
    obtain ⟨_, _, _, z1⟩ := src_get I ox
    have b1 := Src.lt at1
    exact enum_starts (Src.begins S as) at1 fun h' he h1 kept => wpAny_pyIter_enum he ⟨_, _, _, _, H, rfl, I.kept (t' := s.toks) kept,
      turn_en (Nat.ne_of_lt b1) (Nat.succ_ne_self _) (Nat.ne_of_gt (Nat.lt_succ_of_lt b1)), ⟨⟨_, he⟩, Src.iter_of h1⟩, all_new I [1, 0], q z1⟩

def seqOf : PyData → Option (List PyData)
  | .list xs => some xs
  | .tuple xs => some xs
  | _ => none
def triosD : List PyData → List PyData → List PyData → List PyData
  | x :: xs, y :: ys, z :: zs => .tuple [x, y, z] :: triosD xs ys zs
  | _, _, _ => []
def numbered : Nat → List PyData → List PyData
  | _, [] => []
  | n, x :: xs => .tuple [.int (n : Int), x] :: numbered (n + 1) xs
theorem numbered_len : ∀ n xs, (numbered n xs).length = xs.length
  | _, [] => rfl
  | n, x :: xs => by simp [numbered, numbered_len (n + 1) xs]
theorem numbered_get : ∀ (n : Nat) (xs : List PyData) (i : Nat), (numbered n xs)[i]? = (xs[i]?).map fun x => .tuple [.int ((n + i : Nat) : Int), x]
  | _, [], i => by simp [numbered]
  | n, x :: xs, 0 => by simp [numbered]
  | n, x :: xs, i + 1 => by
    simp only [numbered, List.getElem?_cons_succ, numbered_get (n + 1) xs i]
    rw [show n + 1 + i = n + (i + 1) by omega]
theorem dn_src {K : PySem.W.Frag} {G : Hp} {v : V} {d : PyData} {xs : List PyData} (dn : Dn K G v d) (h : seqOf d = some xs) : ∃ S vs, v = .ref (Src.ad S) ∧ DnL K G vs xs ∧ ∀ G2 H, Same G G2 → Same G2 H → SrcOk K H S vs := by
  cases dn with
  | lst hs t => cases h; exact ⟨.l _, _, rfl, t, fun G2 H s1 s2 => SqL.of (s2 _ _ (s1 _ _ hs))⟩
  | tup hs t => cases h; exact ⟨.t _, _, rfl, t, fun G2 H s1 s2 => sqT_mono s2 (sqT_mono s1 hs.sq)⟩
  | _ => cases h
theorem pair_new {K : PySem.W.Frag} {B G H : Hp} {δ : DS} {σ : L2.St} {p : Addr} {xs : List V} {ds : List PyData} {o : Obj} (hd : o.dict = none) (rel : Rel K B G δ σ H) (np : H p = none) (t : DnL K G xs ds) : ∃ G3, Same G G3 ∧ Rel K B G3 δ σ (upd H p (tupH o xs)) ∧ Dn K G3 (.ref p) (.tuple ds) := by
  obtain ⟨rel3, s3, at3⟩ := rel.laidT (xs := xs) np hd
  exact ⟨_, s3, rel3, Dn.tup at3 (t.mono s3)⟩
theorem walk_en {K : PySem.W.Frag} {G : Hp} {S : Src} {vs : List V} {xs : List PyData} (h1 : ∀ G2 H, Same G G2 → Same G2 H → SrcOk K H S vs) (t1 : DnL K G vs xs) : WalkD K (Ien K S) G (numbered 0 xs) := fun B G2 δ σ H s rel => by
  have q1 := h1 G2 H s rel.sg
  have l1 := t1.len
  rw [numbered_len]
  refine ⟨fun i hi => ⟨vs, vs[i]'(by omega), q1, List.getElem?_eq_getElem (by omega)⟩, ⟨vs, q1, by omega⟩, fun i x d H' hd y => ?_⟩
  obtain ⟨p, o, x, hd', rfl, np, rfl, y1⟩ := y
  rw [numbered_get] at hd
  cases e1 : xs[i]? with
  | none => rw [e1] at hd; cases hd
  | some d1 =>
    rw [e1] at hd
    cases hd
    obtain ⟨v, hv, dv⟩ := t1.get e1
    rw [y1 vs q1] at hv; cases hv
    refine pair_new hd' rel np (.cons ?_ (.cons (dv.mono s) .nil))
    rw [Nat.zero_add]; exact Dn.int _
def iZip2 (w : DA) : DL := fun δ R => w δ fun os δ1 => lkL os δ1 fun ds δ2 => match ds with
  | [a, b] => ∃ xs ys, seqOf a = some xs ∧ seqOf b = some ys ∧ R (pairsD xs ys) δ2
  | _ => False
def iZip3 (w : DA) : DL := fun δ R => w δ fun os δ1 => lkL os δ1 fun ds δ2 => match ds with
  | [a, b, c] => ∃ xs ys zs, seqOf a = some xs ∧ seqOf b = some ys ∧ seqOf c = some zs ∧ R (triosD xs ys zs) δ2
  | _ => False
def iEnumD (w : DA) : DL := fun δ R => w δ fun os δ1 => lkL os δ1 fun ds δ2 => match ds with
  | [a] => ∃ xs, seqOf a = some xs ∧ R (numbered 0 xs) δ2
  | _ => False
theorem DnL.one {K : PySem.W.Frag} {G : Hp} {vs : List V} {d : PyData} (h : DnL K G vs [d]) : ∃ v, vs = [v] ∧ Dn K G v d := by
  cases h with | cons a b => cases b; exact ⟨_, rfl, a⟩
theorem DnL.two {K : PySem.W.Frag} {G : Hp} {vs : List V} {d e : PyData} (h : DnL K G vs [d, e]) : ∃ v u, vs = [v, u] ∧ Dn K G v d ∧ Dn K G u e := by
  cases h with | cons a b => obtain ⟨u, rfl, c⟩ := b.one; exact ⟨_, _, rfl, a, c⟩
section
variable {X : Cx} {pos tpos : Pos} {elts : List Expr} {kk : Nat} {p : Pos}
theorem ji_enum {e : Expr} {w : DA} (hg : Gl X "enumerate") (hm : X.mg "enumerate" = none) (ha : JA X [e] w) (hs : starEach [e] X.env = [(false, eval e X.env)] := by rfl) : JI X (.Tuple elts kk tpos) (.Call (.Name "enumerate" p) [e] [] pos) (iEnumD w) :=
  pi_le (pi_en hg hm ha hs) fun pins s σ H R I ⟨B, G, δ, R', rel, hw, k⟩ => ⟨B, G, δ, _, rel, hw, fun vs H1 G1 os δ1 r1 s1 rel1 ok1 => by
    obtain ⟨G2, δ2, ds, q, s2, rel2, t⟩ := lkL_ok rel1 ok1 r1
    match ds, q with
    | [a], ⟨xs, ea, q⟩ =>
      obtain ⟨v, rfl, da⟩ := t.one
      obtain ⟨S, ws, rfl, t1, k1⟩ := dn_src da ea
      refine ⟨S, ws, rfl, k1 _ _ (Same.refl _) rel2.sg, fun z1 => k _ H1 G2 _ δ2 q (s1.trans s2) rel2 (walk_en k1 t1) ?_⟩
      rw [numbered_len, ← t1.len]; exact z1⟩
end
end DL
set_option Elab.async false
set_option linter.all false
set_option maxRecDepth 100000
set_option maxHeartbeats 4000000
universe u
namespace DL
open PySem PySem.Spec PyProof.Rows L2
variable [Tb]

inductive Stop {α : Sort u} (R : α) : Type where
  | mk
def comC (g : DTG) (t : DT) (e : DE) (vs : List Nat) (xs acc : List PyData) (δ : DS) (R : List PyData → DS → Prop) (_u : Stop R) : Prop := compIt g t e vs xs acc δ R
def forC (g : DTG) (b : DTS) (xs : List PyData) (δ : DS) (E : DEnds) (_u : Stop E) : Prop := forIt g b xs E δ
def whileC (c : DT) (b : DTS) (δ : DS) (E : DEnds) (_u : Stop E) : Prop := wWhile c b E δ
def ask (sp : DSp) (cs : List Cell) (R : PyData → List Cell → Prop) (_u : Stop R) : Prop := sp cs R
def onS {α : Type} (o : Option α) (k : α → Prop) (_u : Stop k) : Prop := match o with
  | some z => k z
  | none => False
omit [Tb] in
@[simp ↓] theorem onS_some {α : Type} (z : α) (k : α → Prop) (u : Stop k) : onS (some z) k u = k z := rfl
theorem ex_some {α : Type} (o : Option α) (k : α → Prop) : (∃ z, o = some z ∧ k z) = onS o k .mk := by
  cases o <;> simp [onS]
theorem onS_of {α : Type} {o : Option α} {z : α} {k : α → Prop} {u : Stop k} (h : o = some z) (q : k z) : onS o k u := by rw [h]; exact q
def onIs (ds : List PyData) (k : List Int → Prop) (_u : Stop k) : Prop := ∃ ns : List Int, ds = ns.map PyData.int ∧ k ns
def onBs (ds : List PyData) (k : List Bool → Prop) (_u : Stop k) : Prop := ∃ ns : List Bool, ds = ns.map PyData.bool ∧ k ns
theorem map_int_inj : ∀ {ns ms : List Int}, ns.map PyData.int = ms.map PyData.int → ns = ms
  | [], [], _ => rfl
  | [], _ :: _, h => by cases h
  | _ :: _, [], h => by cases h
  | n :: ns, m :: ms, h => by
    simp only [List.map_cons, List.cons.injEq] at h
    obtain ⟨h1, h2⟩ := h
    cases h1
    rw [map_int_inj h2]
theorem map_bool_inj : ∀ {ns ms : List Bool}, ns.map PyData.bool = ms.map PyData.bool → ns = ms
  | [], [], _ => rfl
  | [], _ :: _, h => by cases h
  | _ :: _, [], h => by cases h
  | n :: ns, m :: ms, h => by
    simp only [List.map_cons, List.cons.injEq] at h
    obtain ⟨h1, h2⟩ := h
    cases h1
    rw [map_bool_inj h2]
omit [Tb] in
@[simp ↓] theorem onIs_i (ns : List Int) (k : List Int → Prop) (u : Stop k) : onIs (ns.map PyData.int) k u = k ns :=
  propext ⟨fun ⟨ms, e, h⟩ => by rw [map_int_inj e]; exact h, fun h => ⟨ns, rfl, h⟩⟩
omit [Tb] in
@[simp ↓] theorem onIs_f {α : Type} (as : List α) (f : α → Int) (k : List Int → Prop) (u : Stop k) : onIs (as.map fun a => PyData.int (f a)) k u = k (as.map f) := by
  have := onIs_i (as.map f) k u
  rw [List.map_map] at this; exact this
omit [Tb] in
@[simp ↓] theorem onBs_i (ns : List Bool) (k : List Bool → Prop) (u : Stop k) : onBs (ns.map PyData.bool) k u = k ns :=
  propext ⟨fun ⟨ms, e, h⟩ => by rw [map_bool_inj e]; exact h, fun h => ⟨ns, rfl, h⟩⟩
omit [Tb] in
@[simp ↓] theorem onBs_f {α : Type} (as : List α) (f : α → Bool) (k : List Bool → Prop) (u : Stop k) : onBs (as.map fun a => PyData.bool (f a)) k u = k (as.map f) := by
  have := onBs_i (as.map f) k u
  rw [List.map_map] at this; exact this
def allTr (bs : List Bool) : Bool := bs.all id
def anyTr (bs : List Bool) : Bool := bs.any id
def onD (o : Option Cell) (k : PyData → Prop) (_u : Stop k) : Prop := match o with
  | some (.d z) => k z
  | _ => False
omit [Tb] in
@[simp ↓] theorem onD_d (z : PyData) (k : PyData → Prop) (u : Stop k) : onD (some (.d z)) k u = k z := rfl
theorem ex_d (o : Option Cell) (k : PyData → Prop) : (∃ z, o = some (.d z) ∧ k z) = onD o k .mk := by
  cases o with
  | none => simp [onD]
  | some c => cases c <;> simp [onD]
def asB (x : PyData) (k : Bool → Prop) (_u : Stop k) : Prop := match x with
  | .bool b => k b
  | _ => False
def asI (x : PyData) (k : Int → Prop) (_u : Stop k) : Prop := match x with
  | .int b => k b
  | _ => False
omit [Tb] in
@[simp ↓] theorem asB_b (b : Bool) (k : Bool → Prop) (u : Stop k) : asB (.bool b) k u = k b := rfl
omit [Tb] in
@[simp ↓] theorem asI_i (b : Int) (k : Int → Prop) (u : Stop k) : asI (.int b) k u = k b := rfl
theorem ex_bool (x : PyData) (k : Bool → Prop) : (∃ b, x = .bool b ∧ k b) = asB x k .mk := by
  cases x <;> simp [asB]
theorem ex_int (x : PyData) (k : Int → Prop) : (∃ b, x = .int b ∧ k b) = asI x k .mk := by
  cases x <;> simp [asI]
omit [Tb] in
@[simp ↓] theorem wOfL_ap (w : DL) (δ : DS) (R : Opd → DS → Prop) : wOfL w δ R = (w δ fun xs δ' => R (.d (.list xs)) δ') := rfl
def varC (o : Option Cell) (i : Nat) (k : Opd → Prop) (_u : Stop k) : Prop := match o with
  | some (.d x) => k (.d x)
  | some .em => False
  | none => False
  | _ => k (.s i)
omit [Tb] in
@[simp ↓] theorem varC_d (x : PyData) (i : Nat) (k : Opd → Prop) (u : Stop k) : varC (some (.d x)) i k u = k (.d x) := rfl
omit [Tb] in
@[simp ↓] theorem varC_ol (a : Addr) (xs : List PyData) (i : Nat) (k : Opd → Prop) (u : Stop k) : varC (some (.ol a xs)) i k u = k (.s i) := rfl
omit [Tb] in
@[simp ↓] theorem varC_dk (a b c : Addr) (i : Nat) (k : Opd → Prop) (u : Stop k) : varC (some (.dk a b c)) i k u = k (.s i) := rfl
omit [Tb] in
@[simp ↓] theorem varC_dx (a b c : Addr) (xs : List Int) (n : Int) (ys : List Int) (i : Nat) (k : Opd → Prop) (u : Stop k) : varC (some (.dx a b c xs n ys)) i k u = k (.s i) := rfl
omit [Tb] in
@[simp ↓] theorem varC_scr (a : Addr) (ns : List Int) (i : Nat) (k : Opd → Prop) (u : Stop k) : varC (some (.scr a ns)) i k u = k (.s i) := rfl
def useC (o : Option Cell) (k : PyData → Prop) (_u : Stop k) : Prop := match o with
  | some (.d x) => k x
  | some (.ol _ xs) => k (.list xs)
  | _ => False
omit [Tb] in
@[simp ↓] theorem useC_d (x : PyData) (k : PyData → Prop) (u : Stop k) : useC (some (.d x)) k u = k x := rfl
omit [Tb] in
@[simp ↓] theorem useC_ol (a : Addr) (xs : List PyData) (k : PyData → Prop) (u : Stop k) : useC (some (.ol a xs)) k u = k (.list xs) := rfl
def lkC (o : Option Cell) (k l : PyData → Prop) (_u : Stop k) (_v : Stop l) : Prop := match o with
  | some (.d x) => k x
  | some (.ol _ xs) => l (.list xs)
  | _ => False
omit [Tb] in
@[simp ↓] theorem lkC_d (x : PyData) (k l : PyData → Prop) (u : Stop k) (v : Stop l) : lkC (some (.d x)) k l u v = k x := rfl
omit [Tb] in
@[simp ↓] theorem lkC_ol (a : Addr) (xs : List PyData) (k l : PyData → Prop) (u : Stop k) (v : Stop l) : lkC (some (.ol a xs)) k l u v = l (.list xs) := rfl
def olC (o : Option Cell) (k : Addr → List PyData → Prop) (_u : Stop k) : Prop := match o with
  | some (.ol a xs) => k a xs
  | _ => False
omit [Tb] in
@[simp ↓] theorem olC_ol (a : Addr) (xs : List PyData) (k : Addr → List PyData → Prop) (u : Stop k) : olC (some (.ol a xs)) k u = k a xs := rfl
def asS (x : PyData) (k : List PyData → Prop) (_u : Stop k) : Prop := match x with
  | .tuple xs => k xs
  | .list xs => k xs
  | _ => False
omit [Tb] in
@[simp ↓] theorem asS_t (xs : List PyData) (k : List PyData → Prop) (u : Stop k) : asS (.tuple xs) k u = k xs := rfl
omit [Tb] in
@[simp ↓] theorem asS_l (xs : List PyData) (k : List PyData → Prop) (u : Stop k) : asS (.list xs) k u = k xs := rfl
omit [Tb] in
@[simp ↓] theorem wVar_ap (i : Nat) (δ : DS) (R : Opd → DS → Prop) : wVar i δ R = varC δ[i]? i (fun o => R o δ) .mk := rfl
omit [Tb] in
@[simp ↓] theorem wC_ap (x : PyData) (δ : DS) (R : Opd → DS → Prop) : wC x δ R = (R (.d x) δ) := rfl
omit [Tb] in
@[simp ↓] theorem wNil_ap (δ : DS) (R : List Opd → DS → Prop) : wNil  δ R = (R [] δ) := rfl
omit [Tb] in
@[simp ↓] theorem wCons_ap (w : DE) (r : DA) (δ : DS) (R : List Opd → DS → Prop) : wCons w r δ R = (w δ fun o δ1 => r δ1 fun os δ2 => R (o :: os) δ2) := rfl
omit [Tb] in
@[simp ↓] theorem wOp_ap (p : P2) (wa wb : DE) (δ : DS) (R : Opd → DS → Prop) : wOp p wa wb δ R = (wa δ fun o1 δ1 => wb δ1 fun o2 δ2 => use o1 δ2 fun x => use o2 δ2 fun y => p x y fun z => R (.d z) δ2) := rfl
omit [Tb] in
@[simp ↓] theorem wB_ap (w : DE) (δ : DS) (R : Bool → DS → Prop) : wB w δ R = (w δ fun o δ1 => use o δ1 fun x => asB x (fun b => R b δ1) .mk) := by
  unfold wB; simp only [← ex_bool, ← ex_int]
omit [Tb] in
@[simp ↓] theorem wChain_ap (p q : P2) (wa wb wc : DE) (δ : DS) (R : Opd → DS → Prop) : wChain p q wa wb wc δ R = (wa δ fun o1 δ1 => wb δ1 fun o2 δ2 => use o1 δ2 fun x => use o2 δ2 fun y => p x y fun z => asB z (fun k =>
  if k = true then wc δ2 fun o3 δ3 => use o2 δ3 fun y => use o3 δ3 fun w => q y w fun z => R (.d z) δ3 else R (.d (.bool false)) δ2) .mk) := by
  unfold wChain; simp only [← ex_bool, ← ex_int]
omit [Tb] in
@[simp ↓] theorem wAnd_ap (t u : DT) (δ : DS) (R : Bool → DS → Prop) : wAnd t u δ R = (t δ fun k δ1 => if k = true then u δ1 R else R false δ1) := rfl
omit [Tb] in
@[simp ↓] theorem wOr_ap (t u : DT) (δ : DS) (R : Bool → DS → Prop) : wOr t u δ R = (t δ fun k δ1 => if k = true then R true δ1 else u δ1 R) := rfl
omit [Tb] in
@[simp ↓] theorem wNot_ap (t : DT) (δ : DS) (R : Bool → DS → Prop) : wNot t δ R = (t δ fun k δ1 => R (!k) δ1) := rfl
omit [Tb] in
@[simp ↓] theorem wAndV_ap (w u : DE) (δ : DS) (R : Opd → DS → Prop) : wAndV w u δ R = (w δ fun o δ1 => use o δ1 fun x => asB x (fun k => if k = true then u δ1 R else R (.d (.bool false)) δ1) .mk) := by
  unfold wAndV; simp only [← ex_bool, ← ex_int]
omit [Tb] in
@[simp ↓] theorem wOrV_ap (w u : DE) (δ : DS) (R : Opd → DS → Prop) : wOrV w u δ R = (w δ fun o δ1 => use o δ1 fun x => asB x (fun k => if k = true then R (.d (.bool true)) δ1 else u δ1 R) .mk) := by
  unfold wOrV; simp only [← ex_bool, ← ex_int]
omit [Tb] in
@[simp ↓] theorem wNotV_ap (w : DE) (δ : DS) (R : Opd → DS → Prop) : wNotV w δ R = (w δ fun o δ1 => use o δ1 fun x => asB x (fun k => R (.d (.bool (!k))) δ1) .mk) := by
  unfold wNotV; simp only [← ex_bool, ← ex_int]
omit [Tb] in
@[simp ↓] theorem wIfE_ap (t : DT) (wa wb : DE) (δ : DS) (R : Opd → DS → Prop) : wIfE t wa wb δ R = (t δ fun k δ1 => if k = true then wa δ1 R else wb δ1 R) := rfl
omit [Tb] in
@[simp ↓] theorem wUn_ap (p : PyData → (PyData → Prop) → Prop) (w : DE) (δ : DS) (R : Opd → DS → Prop) : wUn p w δ R = (w δ fun o δ1 => use o δ1 fun x => p x fun z => R (.d z) δ1) := rfl
omit [Tb] in
@[simp ↓] theorem wTup_ap (w : DA) (δ : DS) (R : Opd → DS → Prop) : wTup w δ R = (w δ fun os δ1 => lkL os δ1 fun xs δ2 => xs.length ≤ 1000 ∧ R (.d (.tuple xs)) δ2) := rfl
omit [Tb] in
@[simp ↓] theorem wLst_ap (w : DA) (δ : DS) (R : List PyData → DS → Prop) : wLst w δ R = (w δ fun os δ1 => lkL os δ1 fun xs δ2 => xs.length ≤ 1000 ∧ R xs δ2) := rfl
omit [Tb] in
@[simp ↓] theorem wDic_ap (δ : DS) (R : Opd → DS → Prop) : wDic  δ R = (R (.d (.dict [])) δ) := rfl
omit [Tb] in
@[simp ↓] theorem wFn_ap (p : PN) (w : DA) (δ : DS) (R : Opd → DS → Prop) : wFn p w δ R = (w δ fun os δ1 => useL os δ1 fun xs => p xs fun z => R (.d z) δ1) := rfl
omit [Tb] in
@[simp ↓] theorem wFnL_ap (p : List PyData → (List PyData → Prop) → Prop) (w : DA) (δ : DS) (R : List PyData → DS → Prop) : wFnL p w δ R = (w δ fun os δ1 => useL os δ1 fun xs => p xs fun z => R z δ1) := rfl
omit [Tb] in
@[simp ↓] theorem wOpL_ap (p : P2L) (wa wb : DE) (δ : DS) (R : List PyData → DS → Prop) : wOpL p wa wb δ R = (wa δ fun o1 δ1 => wb δ1 fun o2 δ2 => use o1 δ2 fun x => use o2 δ2 fun y => p x y fun z => R z δ2) := rfl
omit [Tb] in
@[simp ↓] theorem wNoP_ap (δ : DS) (R : Option Int → DS → Prop) : wNoP  δ R = (R none δ) := rfl
omit [Tb] in
@[simp ↓] theorem wPart_ap (w : DE) (δ : DS) (R : Option Int → DS → Prop) : wPart w δ R = (w δ fun o δ1 => use o δ1 fun x => asI x (fun i => R (some i) δ1) .mk) := by
  unfold wPart; simp only [← ex_bool, ← ex_int]
omit [Tb] in
@[simp ↓] theorem wSl_ap (p : P3) (w : DE) (l h : DO) (δ : DS) (R : Opd → DS → Prop) : wSl p w l h δ R = (w δ fun o δ1 => l δ1 fun i δ2 => h δ2 fun j δ3 => use o δ3 fun x => p x i j fun z => R (.d z) δ3) := rfl
omit [Tb] in
@[simp ↓] theorem pSub_ap (i j : Int) (R : PyData → Prop) : pSub (.int i) (.int j) R = (R (.int (i - j))) := rfl
omit [Tb] in
@[simp ↓] theorem pMul_intiintj (i : Int) (j : Int) (R : PyData → Prop) : pMul (.int i) (.int j) R = ((CMul i j ∨ CMulW i j) ∧ R (.int (i * j))) := rfl
omit [Tb] in
@[simp ↓] theorem pMul_listxsintk (xs : List PyData) (k : Int) (R : PyData → Prop) : pMul (.list xs) (.int k) R = (0 ≤ k ∧ xs.length * k.toNat ≤ 1000000 ∧ k < 1000000 ∧ R (.list (List.replicate k.toNat xs).flatten)) := rfl
omit [Tb] in
@[simp ↓] theorem pDiv_ap (i j : Int) (R : PyData → Prop) : pDiv (.int i) (.int j) R = ((0 < j ∧ j.natAbs.log2 < 9000) ∧ R (.int (i / j))) := rfl
omit [Tb] in
@[simp ↓] theorem pMod_ap (i j : Int) (R : PyData → Prop) : pMod (.int i) (.int j) R = (0 < j ∧ R (.int (i % j))) := rfl
omit [Tb] in
@[simp ↓] theorem pPow_ap (i j : Int) (R : PyData → Prop) : pPow (.int i) (.int j) R = (CPow i j ∧ R (.int (i ^ j.toNat))) := rfl
omit [Tb] in
@[simp ↓] theorem pShl_ap (i j : Int) (R : PyData → Prop) : pShl (.int i) (.int j) R = (CPow i j ∧ R (.int (i * 2 ^ j.toNat))) := rfl
omit [Tb] in
@[simp ↓] theorem pAnd_ap (i j : Int) (R : PyData → Prop) : pAnd (.int i) (.int j) R = (R (.int (Builtin.bitAnd i j))) := rfl
omit [Tb] in
@[simp ↓] theorem pOr_ap (i j : Int) (R : PyData → Prop) : pOr (.int i) (.int j) R = (R (.int (Builtin.bitOr i j))) := rfl
omit [Tb] in
@[simp ↓] theorem pLt_intiintj (i : Int) (j : Int) (R : PyData → Prop) : pLt (.int i) (.int j) R = (R (.bool (decide (i < j)))) := rfl
omit [Tb] in
@[simp ↓] theorem pLe_ap (i j : Int) (R : PyData → Prop) : pLe (.int i) (.int j) R = (R (.bool (decide (i ≤ j)))) := rfl
omit [Tb] in
@[simp ↓] theorem pGt_ap (i j : Int) (R : PyData → Prop) : pGt (.int i) (.int j) R = (R (.bool (decide (j < i)))) := rfl
omit [Tb] in
@[simp ↓] theorem pGe_ap (i j : Int) (R : PyData → Prop) : pGe (.int i) (.int j) R = (R (.bool (decide (j ≤ i)))) := rfl
omit [Tb] in
@[simp ↓] theorem pAdd_intiintj (i : Int) (j : Int) (R : PyData → Prop) : pAdd (.int i) (.int j) R = (R (.int (i + j))) := rfl
omit [Tb] in
@[simp ↓] theorem pAdd_strastrb (a : Str) (b : Str) (R : PyData → Prop) : pAdd (.str a) (.str b) R = (a.length + b.length ≤ 1000000 ∧ R (.str (a ++ b))) := rfl
omit [Tb] in
@[simp ↓] theorem pAdd_tuplexstupleys (xs : List PyData) (ys : List PyData) (R : PyData → Prop) : pAdd (.tuple xs) (.tuple ys) R = (xs.length + ys.length ≤ 1000000 ∧ R (.tuple (xs ++ ys))) := rfl
omit [Tb] in
@[simp ↓] theorem pAdd_listxslistys (xs : List PyData) (ys : List PyData) (R : PyData → Prop) : pAdd (.list xs) (.list ys) R = (xs.length + ys.length ≤ 1000000 ∧ R (.list (xs ++ ys))) := rfl
omit [Tb] in
@[simp ↓] theorem pIs_boolaboolb (a : Bool) (b : Bool) (R : PyData → Prop) : pIs (.bool a) (.bool b) R = (R (.bool (decide (a = b)))) := rfl
omit [Tb] in
@[simp ↓] theorem pIsNot_boolaboolb (a : Bool) (b : Bool) (R : PyData → Prop) : pIsNot (.bool a) (.bool b) R = (R (.bool (!decide (a = b)))) := rfl
omit [Tb] in
@[simp ↓] theorem pIx_l (ds : List PyData) (i : Int) (R : PyData → Prop) : pIx (.list ds) (.int i) R = onS (atI ds i) R .mk := by rw [← ex_some]; rfl
omit [Tb] in
@[simp ↓] theorem pIx_t (ds : List PyData) (i : Int) (R : PyData → Prop) : pIx (.tuple ds) (.int i) R = onS (atI ds i) R .mk := by rw [← ex_some]; rfl
omit [Tb] in
@[simp ↓] theorem pIx_s (z : Str) (i : Int) (R : PyData → Prop) : pIx (.str z) (.int i) R = (z.length ≤ 1000000 ∧ onS (atI z.cps.toList i) (fun c => R (.str ⟨#[c]⟩)) .mk) := by rw [← ex_some]; rfl
omit [Tb] in
@[simp ↓] theorem mE_ap (w : DE) (δ : DS) (R : Cell → DS → Prop) : mE w δ R = (w δ fun o δ1 => lk o δ1 fun x δ2 => R (.d x) δ2) := rfl
omit [Tb] in
@[simp ↓] theorem mL_ap (w : DL) (δ : DS) (R : Cell → DS → Prop) : mL w δ R = (w δ fun xs δ1 => ∀ a, R (.ol a xs) δ1) := rfl
omit [Tb] in
@[simp ↓] theorem msNil_ap (δ : DS) (R : List Cell → DS → Prop) : msNil  δ R = (R [] δ) := rfl
omit [Tb] in
@[simp ↓] theorem msCons_ap (w : DM) (r : DMs) (δ : DS) (R : List Cell → DS → Prop) : msCons w r δ R = (w δ fun c δ1 => r δ1 fun cs δ2 => R (c :: cs) δ2) := rfl
omit [Tb] in
@[simp ↓] theorem wNext_ap (E : DEnds) (δ : DS) : wNext  E δ = (E.nx δ) := rfl
omit [Tb] in
@[simp ↓] theorem wSeq_ap (t u : DTS) (E : DEnds) (δ : DS) : wSeq t u E δ = (t { E with nx := u E } δ) := rfl
omit [Tb] in
@[simp ↓] theorem wBrk_ap (E : DEnds) (δ : DS) : wBrk  E δ = (E.bk δ) := rfl
omit [Tb] in
@[simp ↓] theorem wCnt_ap (E : DEnds) (δ : DS) : wCnt  E δ = (E.ct δ) := rfl
omit [Tb] in
@[simp ↓] theorem wRet_ap (w : DE) (E : DEnds) (δ : DS) : wRet w E δ = (w δ fun o δ1 => lk o δ1 fun x δ2 => E.rt x δ2) := rfl
omit [Tb] in
@[simp ↓] theorem wRetN_ap (E : DEnds) (δ : DS) : wRetN  E δ = (E.rt .none δ) := rfl
omit [Tb] in
@[simp ↓] theorem wIf_ap (c : DT) (t u : DTS) (E : DEnds) (δ : DS) : wIf c t u E δ = (c δ fun b δ1 => if b = true then t E δ1 else u E δ1) := rfl
omit [Tb] in
@[simp ↓] theorem wNever_ap (x0 : DEnds) (x1 : DS) : wNever  x0 x1 = (False) := rfl
omit [Tb] in
@[simp ↓] theorem wDrop_ap (w : DE) (E : DEnds) (δ : DS) : wDrop w E δ = (w δ fun _ δ1 => E.nx δ1) := rfl
omit [Tb] in
@[simp ↓] theorem wSet_ap (i : Nat) (w : DM) (E : DEnds) (δ : DS) : wSet i w E δ = (w δ fun c δ1 => E.nx (δ1.set i c)) := rfl
omit [Tb] in
@[simp ↓] theorem wPar2_ap (i j : Nat) (w : DMs) (E : DEnds) (δ : DS) : wPar2 i j w E δ = (w δ fun cs δ1 => match cs with
  | [c, d] => E.nx ((δ1.set i c).set j d)
  | _ => False) := by
  unfold wPar2
  congr 1; funext cs δ1
  match cs with
  | [] => simp
  | [c] => simp
  | [c, d] => exact propext ⟨fun ⟨c', d', e, h⟩ => by cases e; exact h, fun h => ⟨c, d, rfl, h⟩⟩
  | c :: d :: e :: r => simp
omit [Tb] in
@[simp ↓] theorem wAug_ap (i : Nat) (p : P2) (w : DE) (E : DEnds) (δ : DS) : wAug i p w E δ = onD δ[i]? (fun x => w δ fun o δ1 => use o δ1 fun y => p x y fun z => E.nx (δ1.set i (.d z))) .mk := by
  rw [← ex_d]; rfl
omit [Tb] in
@[simp ↓] theorem gN_ap (i : Nat) (x : PyData) (δ : DS) (R : DS → Prop) : gN i x δ R = (R (δ.set i (.d x))) := rfl
omit [Tb] in
@[simp ↓] theorem gsNil_ap (xs : List PyData) (δ : DS) (R : DS → Prop) : gsNil  xs δ R = (match xs with
  | [] => R δ
  | _ => False) := rfl
omit [Tb] in
@[simp ↓] theorem gsCons_ap (g : DTG) (r : DTGs) (xs : List PyData) (δ : DS) (R : DS → Prop) : gsCons g r xs δ R = (match xs with
  | x :: xs => g x δ fun δ1 => r xs δ1 R
  | [] => False) := rfl
omit [Tb] in
@[simp ↓] theorem gT_ap (r : DTGs) (x : PyData) (δ : DS) (R : DS → Prop) : gT r x δ R = (match x with
  | .tuple xs => r xs δ R
  | _ => False) := rfl
omit [Tb] in
@[simp ↓] theorem iSeq_ap (w : DE) (δ : DS) (R : List PyData → DS → Prop) : iSeq w δ R = (w δ fun o δ1 => lk o δ1 fun x δ2 => asS x (fun xs => R xs δ2) .mk) := rfl
def rng1 (xs : List PyData) (k : Int → Prop) (_u : Stop k) : Prop := ∃ j, xs = [PyData.int j] ∧ k j
def rng2 (xs : List PyData) (k : Int → Int → Prop) (_u : Stop k) : Prop := ∃ i j, xs = [PyData.int i, PyData.int j] ∧ k i j
omit [Tb] in
@[simp ↓] theorem rng1_i (j : Int) (k : Int → Prop) (u : Stop k) : rng1 [.int j] k u = k j := propext ⟨fun ⟨_, e, h⟩ => by cases e; exact h, fun h => ⟨j, rfl, h⟩⟩
omit [Tb] in
@[simp ↓] theorem rng2_i (i j : Int) (k : Int → Int → Prop) (u : Stop k) : rng2 [.int i, .int j] k u = k i j := propext ⟨fun ⟨_, _, e, h⟩ => by cases e; exact h, fun h => ⟨i, j, rfl, h⟩⟩
omit [Tb] in
@[simp ↓] theorem iRange1_ap (w : DA) (δ : DS) (R : List PyData → DS → Prop) : iRange1 w δ R = (w δ fun os δ1 => useL os δ1 fun xs => rng1 xs (fun j => -1000000 ≤ j ∧ j ≤ 1000000 ∧ R (nums 0 j.toNat) δ1) .mk) := rfl
omit [Tb] in
@[simp ↓] theorem iRange2_ap (w : DA) (δ : DS) (R : List PyData → DS → Prop) : iRange2 w δ R = (w δ fun os δ1 => useL os δ1 fun xs => rng2 xs (fun i j => (-1000000 ≤ i ∧ i ≤ 1000000 ∧ -1000000 ≤ j ∧ j ≤ 1000000) ∧ R (nums i (j - i).toNat) δ1) .mk) := rfl
omit [Tb] in
@[simp ↓] theorem wFor_ap (wi : DL) (g : DTG) (b : DTS) (E : DEnds) (δ : DS) : wFor wi g b E δ = (wi δ fun xs δ1 => forC g b xs δ1 E .mk) := rfl
omit [Tb] in
@[simp ↓] theorem wWhile_ap (c : DT) (b : DTS) (E : DEnds) (δ : DS) : wWhile c b E δ = whileC c b δ E .mk := rfl
omit [Tb] in
@[simp ↓] theorem wComp_ap (wi : DL) (g : DTG) (t : DT) (e : DE) (vs : List Nat) (δ : DS) (R : List PyData → DS → Prop) : wComp wi g t e vs δ R = (wi δ fun xs δ1 => comC g t e vs xs [] (wipeD δ1 vs) (fun ys δ2 => R ys (backD δ1 δ2 vs)) .mk) := rfl
omit [Tb] in
@[simp ↓] theorem wAppend_ap (i : Nat) (w : DE) (E : DEnds) (δ : DS) : wAppend i w E δ = (isOl δ i ∧ w δ fun o δ1 => lk o δ1 fun y δ2 => olC δ2[i]? (fun a xs => xs.length ≤ 1000000 ∧ E.nx (δ2.set i (.ol a (xs ++ [y])))) .mk) := rfl
omit [Tb] in
@[simp ↓] theorem wExtend_ap (i : Nat) (w : DE) (E : DEnds) (δ : DS) : wExtend i w E δ = (isOl δ i ∧ w δ fun o δ1 => use o δ1 fun y => ∃ ys, y = .list ys ∧ olC δ1[i]? (fun a xs => xs.length + ys.length ≤ 1000000 ∧ E.nx (δ1.set i (.ol a (xs ++ ys)))) .mk) := rfl
omit [Tb] in
@[simp ↓] theorem wPut_ap (i : Nat) (we wi : DE) (E : DEnds) (δ : DS) : wPut i we wi E δ = (we δ fun o δ1 => lk o δ1 fun y δ2 => isOl δ2 i ∧ wi δ2 fun oj δ3 => use oj δ3 fun j => asI j (fun j => olC δ3[i]? (fun a xs => ∃ n, ixN xs.length j = some n ∧ E.nx (δ3.set i (.ol a (xs.set n y)))) .mk) .mk) := by
  unfold wPut
  congr 1; funext o δ1; congr 1; funext y δ2; congr 1; congr 1; funext oj δ3; congr 1; funext j
  cases j <;> simp only [asI]
  cases δ3[i]? with
  | none => rfl
  | some c => cases c <;> rfl
omit [Tb] in
@[simp ↓] theorem wPop_ap (i : Nat) (δ : DS) (R : Opd → DS → Prop) : wPop i δ R = olC δ[i]? (fun a xs => onS xs.getLast? (fun y => R (.d y) (δ.set i (.ol a xs.dropLast))) .mk) .mk := by
  unfold wPop
  cases δ[i]? with
  | none => rfl
  | some c => cases c <;> first | rfl | exact ex_some _ _
omit [Tb] in
@[simp ↓] theorem wCall_ap (m : List Bool) (sp : DSp) (w : DA) (δ : DS) (R : Opd → DS → Prop) : wCall m sp w δ R = (w δ fun os δ1 => lkM m os δ1 fun os' δ2 => (slotsOf os').Nodup ∧ ask sp (os'.map (cellOf δ2)) (fun x cs => R (.d x) (putBack os' cs δ2)) .mk) := rfl
omit [Tb] in
@[simp ↓] theorem iZip2_ap (w : DA) (δ : DS) (R : List PyData → DS → Prop) : iZip2 w δ R = (w δ fun os δ1 => lkL os δ1 fun ds δ2 => match ds with
  | [a, b] => onS (seqOf a) (fun xs => onS (seqOf b) (fun ys => R (pairsD xs ys) δ2) .mk) .mk
  | _ => False) := by
  unfold iZip2; simp only [← ex_some, ← exists_and_left] <;> rfl
omit [Tb] in
@[simp ↓] theorem iZip3_ap (w : DA) (δ : DS) (R : List PyData → DS → Prop) : iZip3 w δ R = (w δ fun os δ1 => lkL os δ1 fun ds δ2 => match ds with
  | [a, b, c] => onS (seqOf a) (fun xs => onS (seqOf b) (fun ys => onS (seqOf c) (fun zs => R (triosD xs ys zs) δ2) .mk) .mk) .mk
  | _ => False) := by
  unfold iZip3; simp only [← ex_some, ← exists_and_left] <;> rfl
omit [Tb] in
@[simp ↓] theorem iEnumD_ap (w : DA) (δ : DS) (R : List PyData → DS → Prop) : iEnumD w δ R = (w δ fun os δ1 => lkL os δ1 fun ds δ2 => match ds with
  | [a] => onS (seqOf a) (fun xs => R (numbered 0 xs) δ2) .mk
  | _ => False) := by
  unfold iEnumD; simp only [← ex_some] <;> rfl
omit [Tb] in
@[simp ↓] theorem use_d (x : PyData) (δ : DS) (k : PyData → Prop) : use (.d x) δ k = k x := rfl
omit [Tb] in
@[simp ↓] theorem use_s (i : Nat) (δ : DS) (k : PyData → Prop) : use (.s i) δ k = useC δ[i]? k .mk := rfl
omit [Tb] in
@[simp ↓] theorem lk_d (x : PyData) (δ : DS) (k : PyData → DS → Prop) : lk (.d x) δ k = k x δ := rfl
omit [Tb] in
@[simp ↓] theorem lk_s (i : Nat) (δ : DS) (k : PyData → DS → Prop) : lk (.s i) δ k = lkC δ[i]? (fun x => k x δ) (fun x => k x (δ.set i (.d x))) .mk .mk := by
  show (match δ[i]? with
    | some (.d x) => k x δ
    | some (.ol _ xs) => k (.list xs) (δ.set i (.d (.list xs)))
    | _ => False) = _
  unfold lkC
  cases δ[i]? with
  | none => rfl
  | some c => cases c <;> rfl
omit [Tb] in
@[simp ↓] theorem useL_nil (δ : DS) (k : List PyData → Prop) : useL [] δ k = k [] := rfl
omit [Tb] in
@[simp ↓] theorem useL_cons (o : Opd) (os : List Opd) (δ : DS) (k : List PyData → Prop) : useL (o :: os) δ k = (use o δ fun x => useL os δ fun xs => k (x :: xs)) := rfl
omit [Tb] in
@[simp ↓] theorem lkL_nil (δ : DS) (k : List PyData → DS → Prop) : lkL [] δ k = k [] δ := rfl
omit [Tb] in
@[simp ↓] theorem lkL_cons (o : Opd) (os : List Opd) (δ : DS) (k : List PyData → DS → Prop) : lkL (o :: os) δ k = (lk o δ fun x δ1 => lkL os δ1 fun xs δ2 => k (x :: xs) δ2) := rfl
omit [Tb] in
@[simp ↓] theorem lkM_nil (m : List Bool) (δ : DS) (k : List Opd → DS → Prop) : lkM m [] δ k = k [] δ := by unfold lkM; rfl
omit [Tb] in
@[simp ↓] theorem lkM_t (m : List Bool) (o : Opd) (os : List Opd) (δ : DS) (k : List Opd → DS → Prop) : lkM (true :: m) (o :: os) δ k = (lkM m os δ fun r δ' => k (o :: r) δ') := by
  conv => lhs; unfold lkM
  rfl
omit [Tb] in
@[simp ↓] theorem lkM_f (m : List Bool) (o : Opd) (os : List Opd) (δ : DS) (k : List Opd → DS → Prop) : lkM (false :: m) (o :: os) δ k = (lk o δ fun x δ1 => lkM m os δ1 fun r δ' => k (.d x :: r) δ') := by
  conv => lhs; unfold lkM
  rfl
omit [Tb] in
@[simp ↓] theorem lkM_0 (o : Opd) (os : List Opd) (δ : DS) (k : List Opd → DS → Prop) : lkM [] (o :: os) δ k = (lk o δ fun x δ1 => lkM [] os δ1 fun r δ' => k (.d x :: r) δ') := by
  conv => lhs; unfold lkM
  rfl
omit [Tb] in
@[simp] theorem cellOf_d (δ : DS) (x : PyData) : cellOf δ (.d x) = .d x := rfl
omit [Tb] in
@[simp] theorem cellOf_s (δ : DS) (i : Nat) : cellOf δ (.s i) = (δ[i]?).getD .em := rfl
omit [Tb] in
@[simp ↓] theorem putBack_nil (cs : List Cell) (δ : DS) : putBack [] cs δ = δ := by cases cs <;> rfl
omit [Tb] in
@[simp ↓] theorem putBack_s (i : Nat) (os : List Opd) (c : Cell) (cs : List Cell) (δ : DS) : putBack (.s i :: os) (c :: cs) δ = putBack os cs (δ.set i c) := rfl
omit [Tb] in
@[simp ↓] theorem putBack_d (x : PyData) (os : List Opd) (c : Cell) (cs : List Cell) (δ : DS) : putBack (.d x :: os) (c :: cs) δ = putBack os cs δ := rfl
omit [Tb] in
@[simp] theorem slotsOf_nil : slotsOf [] = [] := rfl
omit [Tb] in
@[simp] theorem slotsOf_s (i : Nat) (os : List Opd) : slotsOf (.s i :: os) = i :: slotsOf os := rfl
omit [Tb] in
@[simp] theorem slotsOf_d (x : PyData) (os : List Opd) : slotsOf (.d x :: os) = slotsOf os := rfl
omit [Tb] in
@[simp ↓] theorem pNeg_i (i : Int) (R : PyData → Prop) : pNeg (.int i) R = R (.int (-i)) := rfl
omit [Tb] in
@[simp ↓] theorem pIs_n (x : PyData) (R : PyData → Prop) : pIs x .none R = R (.bool (isNone x)) := by cases x <;> rfl
omit [Tb] in
@[simp ↓] theorem pIsNot_n (x : PyData) (R : PyData → Prop) : pIsNot x .none R = R (.bool (!isNone x)) := by cases x <;> rfl
omit [Tb] in
@[simp ↓] theorem isNone_n : isNone .none = true := rfl
omit [Tb] in
@[simp ↓] theorem isNone_i (i : Int) : isNone (.int i) = false := rfl
omit [Tb] in
@[simp ↓] theorem isNone_b (i : Bool) : isNone (.bool i) = false := rfl
omit [Tb] in
@[simp ↓] theorem isNone_s (i : Str) : isNone (.str i) = false := rfl
omit [Tb] in
@[simp ↓] theorem isNone_l (i : List PyData) : isNone (.list i) = false := rfl
omit [Tb] in
@[simp ↓] theorem isNone_t (i : List PyData) : isNone (.tuple i) = false := rfl
omit [Tb] in
@[simp ↓] theorem isNone_d (i : List (PyData × PyData)) : isNone (.dict i) = false := rfl
omit [Tb] in
@[simp ↓] theorem pAddL_ll (xs ys : List PyData) (R : List PyData → Prop) : pAddL (.list xs) (.list ys) R = (xs.length + ys.length ≤ 1000000 ∧ R (xs ++ ys)) := rfl
omit [Tb] in
@[simp ↓] theorem pMulL_ll (xs : List PyData) (k : Int) (R : List PyData → Prop) : pMulL (.list xs) (.int k) R = (0 ≤ k ∧ xs.length * k.toNat ≤ 1000000 ∧ k < 1000000 ∧ R (List.replicate k.toNat xs).flatten) := rfl
omit [Tb] in
@[simp ↓] theorem pIn_l (x : PyData) (ds : List PyData) (R : PyData → Prop) : pIn x (.list ds) R = (SeqAt.shaped x = true ∧ SeqAt.shaped (.list ds) = true ∧ R (.bool (ds.any fun z => PyData.eqv z x))) := rfl
omit [Tb] in
@[simp ↓] theorem pIn_t (x : PyData) (ds : List PyData) (R : PyData → Prop) : pIn x (.tuple ds) R = (SeqAt.shaped x = true ∧ SeqAt.shaped (.tuple ds) = true ∧ R (.bool (ds.any fun z => PyData.eqv z x))) := rfl
omit [Tb] in
@[simp ↓] theorem pIn_s (x : PyData) (z : Str) (R : PyData → Prop) : pIn x (.str z) R = (∃ c : Nat, x = .str ⟨#[c]⟩ ∧ R (.bool (decide (c ∈ z.cps.toList)))) := rfl
omit [Tb] in
@[simp ↓] theorem pNotIn_l (x : PyData) (ds : List PyData) (R : PyData → Prop) : pNotIn x (.list ds) R = (SeqAt.shaped x = true ∧ SeqAt.shaped (.list ds) = true ∧ R (.bool (!ds.any fun z => PyData.eqv z x))) := rfl
omit [Tb] in
@[simp ↓] theorem pNotIn_t (x : PyData) (ds : List PyData) (R : PyData → Prop) : pNotIn x (.tuple ds) R = (SeqAt.shaped x = true ∧ SeqAt.shaped (.tuple ds) = true ∧ R (.bool (!ds.any fun z => PyData.eqv z x))) := rfl
omit [Tb] in
@[simp ↓] theorem pNotIn_s (x : PyData) (z : Str) (R : PyData → Prop) : pNotIn x (.str z) R = (∃ c : Nat, x = .str ⟨#[c]⟩ ∧ R (.bool (!decide (c ∈ z.cps.toList)))) := rfl
omit [Tb] in
@[simp ↓] theorem pSl_l (ds : List PyData) (lo hi : Option Int) (R : PyData → Prop) : pSl (.list ds) lo hi R = R (.list (cutD ds lo hi)) := rfl
omit [Tb] in
@[simp ↓] theorem pSl_t (ds : List PyData) (lo hi : Option Int) (R : PyData → Prop) : pSl (.tuple ds) lo hi R = R (.tuple (cutD ds lo hi)) := rfl
omit [Tb] in
@[simp ↓] theorem pSl_s (z : Str) (lo hi : Option Int) (R : PyData → Prop) : pSl (.str z) lo hi R = (z.length ≤ 1000000 ∧ R (.str (cutS z lo hi))) := rfl
omit [Tb] in
@[simp ↓] theorem pLen_l (ds : List PyData) (R : PyData → Prop) : pLen [.list ds] R = R (.int ds.length) := rfl
omit [Tb] in
@[simp ↓] theorem pLen_t (ds : List PyData) (R : PyData → Prop) : pLen [.tuple ds] R = R (.int ds.length) := rfl
omit [Tb] in
@[simp ↓] theorem pLen_s (z : Str) (R : PyData → Prop) : pLen [.str z] R = (z.length ≤ 1000000 ∧ R (.int z.length)) := rfl
omit [Tb] in
@[simp ↓] theorem pTupOf_l (ds : List PyData) (R : PyData → Prop) : pTupOf [.list ds] R = R (.tuple ds) := rfl
omit [Tb] in
@[simp ↓] theorem pTupOf_t (ds : List PyData) (R : PyData → Prop) : pTupOf [.tuple ds] R = R (.tuple ds) := rfl
omit [Tb] in
@[simp ↓] theorem pLstOf_l (ds : List PyData) (R : List PyData → Prop) : pLstOf [.list ds] R = R ds := rfl
omit [Tb] in
@[simp ↓] theorem pLstOf_t (ds : List PyData) (R : List PyData → Prop) : pLstOf [.tuple ds] R = R ds := rfl
omit [Tb] in
@[simp ↓] theorem pInt_i (i : Int) (R : PyData → Prop) : pInt [.int i] R = R (.int i) := rfl
omit [Tb] in
@[simp ↓] theorem pInt_b (b : Bool) (R : PyData → Prop) : pInt [.bool b] R = R (.int (if b then 1 else 0)) := rfl
omit [Tb] in
@[simp ↓] theorem pInt_s (z : Str) (R : PyData → Prop) : pInt [.str z] R = (∃ n, PySem.intText? z = some n ∧ z.length ≤ 640 ∧ R (.int n)) := rfl
omit [Tb] in
@[simp ↓] theorem pBool_i (i : Int) (R : PyData → Prop) : pBool [.int i] R = R (.bool (i != 0)) := rfl
omit [Tb] in
@[simp ↓] theorem pBool_b (b : Bool) (R : PyData → Prop) : pBool [.bool b] R = R (.bool b) := rfl
omit [Tb] in
@[simp ↓] theorem pStr_i (i : Int) (R : PyData → Prop) : pStr [.int i] R = (i.natAbs.log2 < 1920 ∧ R (.str (toString i))) := rfl
omit [Tb] in
@[simp ↓] theorem pStr_s (z : Str) (R : PyData → Prop) : pStr [.str z] R = R (.str z) := rfl
omit [Tb] in
@[simp ↓] theorem pAbs_i (i : Int) (R : PyData → Prop) : pAbs [.int i] R = R (.int (if i < 0 then -i else i)) := rfl
omit [Tb] in
@[simp ↓] theorem pMax2_i (i j : Int) (R : PyData → Prop) : pMax2 [.int i, .int j] R = R (.int (if j > i then j else i)) := rfl
omit [Tb] in
@[simp ↓] theorem pMin2_i (i j : Int) (R : PyData → Prop) : pMin2 [.int i, .int j] R = R (.int (if j < i then j else i)) := rfl
omit [Tb] in
@[simp ↓] theorem pSum_l (ds : List PyData) (R : PyData → Prop) : pSum [.list ds] R = onIs ds (fun ns => R (.int ns.sum)) .mk := rfl
omit [Tb] in
@[simp ↓] theorem pMax_l (ds : List PyData) (R : PyData → Prop) : pMax [.list ds] R = onIs ds (fun ns => 0 < ns.length ∧ ∀ m, m ∈ ns → (∀ y ∈ ns, y ≤ m) → R (.int m)) .mk := rfl
omit [Tb] in
@[simp ↓] theorem pMin_l (ds : List PyData) (R : PyData → Prop) : pMin [.list ds] R = onIs ds (fun ns => 0 < ns.length ∧ ∀ m, m ∈ ns → (∀ y ∈ ns, m ≤ y) → R (.int m)) .mk := rfl
omit [Tb] in
@[simp ↓] theorem pAll_l (ds : List PyData) (R : PyData → Prop) : pAll [.list ds] R = onBs ds (fun bs => R (.bool (allTr bs))) .mk := rfl
omit [Tb] in
@[simp ↓] theorem pAny_l (ds : List PyData) (R : PyData → Prop) : pAny [.list ds] R = onBs ds (fun bs => R (.bool (anyTr bs))) .mk := rfl
omit [Tb] in
@[simp ↓] theorem pRepr_x (x : PyData) (R : PyData → Prop) : pRepr [x] R = (x.showable = true ∧ x.hasDict = false ∧ x.depth ≤ 60 ∧ x.shown.length ≤ 16000000 ∧ R (.str x.shown)) := rfl
omit [Tb] in
@[simp ↓] theorem wIsi_ap (T : String) (w : DE) (δ : DS) (R : Opd → DS → Prop) : wIsi T w δ R = (w δ fun o δ1 => use o δ1 fun x => R (.d (.bool (isTy T x))) δ1) := rfl
omit [Tb] in
@[simp ↓] theorem wRevL_ap (w : DE) (δ : DS) (R : Opd → DS → Prop) : wRevL w δ R = (w δ fun o δ1 => use o δ1 fun x => ∃ ds, x = .list ds ∧ R (.d (.list ds.reverse)) δ1) := rfl
omit [Tb] in
@[simp] theorem tT_ap (δ : DS) (R : Bool → DS → Prop) : tT δ R = R true δ := rfl
omit [Tb] in
@[simp ↓] theorem wipeD_nil (δ : DS) : wipeD δ [] = δ := rfl
omit [Tb] in
@[simp ↓] theorem wipeD_cons (δ : DS) (v : Nat) (vs : List Nat) : wipeD δ (v :: vs) = (wipeD δ vs).set v .em := rfl
omit [Tb] in
@[simp] theorem backD_nil (δ0 δ : DS) : backD δ0 δ [] = δ := rfl
omit [Tb] in
@[simp] theorem backD_cons (δ0 δ : DS) (v : Nat) (vs : List Nat) : backD δ0 δ (v :: vs) = (backD δ0 δ vs).set v (keepC ((δ0[v]?).getD .em)) := rfl
omit [Tb] in
@[simp] theorem keepC_d (x : PyData) : keepC (.d x) = .d x := rfl
omit [Tb] in
@[simp] theorem keepC_em : keepC .em = .em := rfl
omit [Tb] in
@[simp ↓] theorem isOl_ol (a : Addr) (xs : List PyData) (δ : DS) (i : Nat) (h : δ[i]? = some (.ol a xs)) : isOl δ i = True := eq_true ⟨a, xs, h⟩
omit [Tb] in
@[simp] theorem seqOf_l (xs : List PyData) : seqOf (.list xs) = some xs := rfl
omit [Tb] in
@[simp] theorem seqOf_t (xs : List PyData) : seqOf (.tuple xs) = some xs := rfl
omit [Tb] in
@[simp] theorem endsOf_nx (cs : List Cell) (R : PyData → List Cell → Prop) (δ : DS) : (endsOf cs R).nx δ = (sameIo cs δ ∧ R .none (outC cs δ)) := rfl
omit [Tb] in
@[simp] theorem endsOf_rt (cs : List Cell) (R : PyData → List Cell → Prop) (x : PyData) (δ : DS) : (endsOf cs R).rt x δ = (sameIo cs δ ∧ R x (outC cs δ)) := rfl
omit [Tb] in
@[simp] theorem sameIo_nil (δ : DS) : sameIo [] δ = True := by unfold sameIo; rfl
omit [Tb] in
@[simp] theorem sameIo_d (x : PyData) (cs : List Cell) (e : Cell) (δ : DS) : sameIo (.d x :: cs) (e :: δ) = sameIo cs δ := rfl
omit [Tb] in
@[simp] theorem sameIo_em (cs : List Cell) (e : Cell) (δ : DS) : sameIo (.em :: cs) (e :: δ) = sameIo cs δ := rfl
omit [Tb] in
@[simp] theorem sameIo_scr (a : Addr) (ns : List Int) (cs : List Cell) (e : Cell) (δ : DS) : sameIo (.scr a ns :: cs) (e :: δ) = sameIo cs δ := rfl
omit [Tb] in
@[simp] theorem sameIo_ol (a : Addr) (xs : List PyData) (cs : List Cell) (e : Cell) (δ : DS) : sameIo (.ol a xs :: cs) (e :: δ) = ((∃ ys, e = .ol a ys) ∧ sameIo cs δ) := rfl
omit [Tb] in
@[simp] theorem sameIo_dk (a b c : Addr) (cs : List Cell) (e : Cell) (δ : DS) : sameIo (.dk a b c :: cs) (e :: δ) = (e = .dk a b c ∧ sameIo cs δ) := rfl
omit [Tb] in
@[simp] theorem outC_nil (δ : DS) : outC [] δ = [] := by unfold outC; rfl
omit [Tb] in
@[simp] theorem outC_d (x : PyData) (cs : List Cell) (e : Cell) (δ : DS) : outC (.d x :: cs) (e :: δ) = .d x :: outC cs δ := rfl
omit [Tb] in
@[simp] theorem outC_em (cs : List Cell) (e : Cell) (δ : DS) : outC (.em :: cs) (e :: δ) = .em :: outC cs δ := rfl
omit [Tb] in
@[simp] theorem outC_scr (a : Addr) (ns : List Int) (cs : List Cell) (e : Cell) (δ : DS) : outC (.scr a ns :: cs) (e :: δ) = .scr a ns :: outC cs δ := rfl
omit [Tb] in
@[simp] theorem outC_ol (a : Addr) (xs : List PyData) (cs : List Cell) (e : Cell) (δ : DS) : outC (.ol a xs :: cs) (e :: δ) = e :: outC cs δ := rfl
omit [Tb] in
@[simp] theorem outC_dk (a b c : Addr) (cs : List Cell) (e : Cell) (δ : DS) : outC (.dk a b c :: cs) (e :: δ) = e :: outC cs δ := rfl
omit [Tb] in
@[simp] theorem start0_ap (n : Nat) (cs : List Cell) : start0 n cs = cs ++ List.replicate (n - cs.length) .em := rfl
theorem for_inv {g : DTG} {b : DTS} {xs : List PyData} {δ : DS} {E : DEnds} {u : Stop E} (P : List PyData → DS → Prop) (Q : DS → Prop) (Z : PyData → DS → Prop) (h : P xs δ) (h0 : ∀ δ, P [] δ → E.nx δ) (hq : ∀ δ, Q δ → E.nx δ) (hz : ∀ x δ, Z x δ → E.rt x δ)
    (hs : ∀ x xs δ, P (x :: xs) δ → ∀ (K B : DS → Prop) (T : PyData → DS → Prop), (∀ δ', P xs δ' → K δ') → (∀ δ', Q δ' → B δ') → (∀ x δ', Z x δ' → T x δ') → g x δ fun δ1 => b { nx := K, rt := T, bk := B, ct := K } δ1) : forC g b xs δ E u := by
  show forIt g b xs E δ
  induction xs generalizing δ with
  | nil => exact h0 δ h
  | cons x xs ih => exact hs x xs δ h _ _ _ (fun δ' p => ih p) hq hz
theorem com_inv {g : DTG} {t : DT} {e : DE} {vs : List Nat} {xs acc : List PyData} {δ : DS} {R : List PyData → DS → Prop} {u : Stop R} (P : List PyData → List PyData → DS → Prop) (h : P xs acc δ) (h0 : ∀ acc δ, P [] acc δ → R acc δ)
    (hs : ∀ x xs acc δ, P (x :: xs) acc δ → ∀ K : List PyData → DS → Prop, (∀ acc' δ', P xs acc' δ' → K acc' δ') → g x δ fun δ1 => t δ1 fun b δ2 => if b = true then e δ2 fun o δ3 => lk o δ3 fun y δ4 => K (acc ++ [y]) (wipeD δ4 vs) else K acc (wipeD δ2 vs)) : comC g t e vs xs acc δ R u := by
  show compIt g t e vs xs acc δ R
  induction xs generalizing acc δ with
  | nil => exact h0 acc δ h
  | cons x xs ih => exact hs x xs acc δ h (fun acc' δ' => compIt g t e vs xs acc' δ' R) fun acc' δ' p => ih p
theorem com_any {g : DTG} {t : DT} {e : DE} {vs : List Nat} {xs : List PyData} {δ : DS} {R : List PyData → DS → Prop} {u : Stop R} (Q : PyData → Prop)
    (hs : ∀ x ∈ xs, ∀ (acc : List PyData) (K : List PyData → DS → Prop), (∀ y, Q y → K (acc ++ [y]) δ) → g x δ fun δ1 => t δ1 fun b δ2 => if b = true then e δ2 fun o δ3 => lk o δ3 fun y δ4 => K (acc ++ [y]) (wipeD δ4 vs) else K acc (wipeD δ2 vs)) (k : ∀ ys, ys.length = xs.length → (∀ y ∈ ys, Q y) → R ys δ) : comC g t e vs xs [] δ R u := by
  refine com_inv (fun ys acc δ' => δ' = δ ∧ (∀ x ∈ ys, x ∈ xs) ∧ (∀ y ∈ acc, Q y) ∧ acc.length + ys.length = xs.length) ⟨rfl, fun _ h => h, by simp, by simp⟩ ?_ ?_
  · rintro acc δ' ⟨rfl, _, h, hl⟩
    exact k acc (by simpa using hl) h
  · rintro x ys acc δ' ⟨rfl, hm, h, hl⟩ K hK
    refine hs x (hm x (List.mem_cons_self ..)) acc K fun y qy => hK _ _ ⟨rfl, fun y hy => hm y (List.mem_cons_of_mem _ hy), fun z hz => ?_, by simp at hl ⊢; omega⟩
    rcases List.mem_append.mp hz with q | q
    · exact h z q
    · rw [List.mem_singleton.mp q]; exact qy
theorem ints_of : ∀ {ys : List PyData} {P : Int → Prop}, (∀ y ∈ ys, ∃ i, y = .int i ∧ P i) → ∃ ns : List Int, ys = ns.map PyData.int ∧ ∀ i ∈ ns, P i
  | [], _, _ => ⟨[], rfl, by simp⟩
  | y :: ys, P, h => by
    obtain ⟨i, rfl, hi⟩ := h y (List.mem_cons_self ..)
    obtain ⟨ns, rfl, hn⟩ := ints_of (ys := ys) fun z hz => h z (List.mem_cons_of_mem _ hz)
    exact ⟨i :: ns, rfl, fun j hj => by
      rcases List.mem_cons.mp hj with q | q
      · rw [q]; exact hi
      · exact hn j q⟩
theorem com_ints {g : DTG} {t : DT} {e : DE} {vs : List Nat} {xs : List PyData} {δ : DS} {R : List PyData → DS → Prop} {u : Stop R} (P : Int → Prop)
    (hs : ∀ x ∈ xs, ∀ (acc : List PyData) (K : List PyData → DS → Prop), (∀ i, P i → K (acc ++ [.int i]) δ) → g x δ fun δ1 => t δ1 fun b δ2 => if b = true then e δ2 fun o δ3 => lk o δ3 fun y δ4 => K (acc ++ [y]) (wipeD δ4 vs) else K acc (wipeD δ2 vs)) (k : ∀ ns : List Int, ns.length = xs.length → (∀ i ∈ ns, P i) → R (ns.map PyData.int) δ) : comC g t e vs xs [] δ R u :=
  com_any (fun y => ∃ i, y = .int i ∧ P i) (fun x hx acc K hK => hs x hx acc K fun i hi => hK _ ⟨i, rfl, hi⟩) fun ys hl hy => by
    obtain ⟨ns, rfl, hn⟩ := ints_of hy
    exact k ns (by simpa using hl) hn
omit [Tb] in
@[simp ↓] theorem pEq_ii (i j : Int) (R : PyData → Prop) : pEq (.int i) (.int j) R = R (.bool (decide (i = j))) := by
  unfold pEq; simp [sc2, PyData.eqv]; rfl
omit [Tb] in
@[simp ↓] theorem pEq_ss (i j : Str) (R : PyData → Prop) : pEq (.str i) (.str j) R = R (.bool (decide (i = j))) := by
  unfold pEq; simp [sc2, PyData.eqv]
  have : (i == j) = decide (i = j) := by rw [Bool.eq_iff_iff]; simp
  rw [this]
omit [Tb] in
@[simp ↓] theorem pEq_bb (i j : Bool) (R : PyData → Prop) : pEq (.bool i) (.bool j) R = R (.bool (i == j)) := by
  unfold pEq; simp [sc2, PyData.eqv]
omit [Tb] in
@[simp ↓] theorem pEq_tt (xs ys : List PyData) (R : PyData → Prop) : pEq (.tuple xs) (.tuple ys) R = (SeqAt.shaped (.tuple xs) = true ∧ SeqAt.shaped (.tuple ys) = true ∧ R (.bool (PyData.eqvAll xs ys))) := by
  unfold pEq; simp [sc2, PyData.eqv, and_assoc]
omit [Tb] in
@[simp ↓] theorem pEq_ll (xs ys : List PyData) (R : PyData → Prop) : pEq (.list xs) (.list ys) R = (SeqAt.shaped (.list xs) = true ∧ SeqAt.shaped (.list ys) = true ∧ R (.bool (PyData.eqvAll xs ys))) := by
  unfold pEq; simp [sc2, PyData.eqv, and_assoc]
omit [Tb] in
@[simp ↓] theorem pNe_ii (i j : Int) (R : PyData → Prop) : pNe (.int i) (.int j) R = R (.bool (!decide (i = j))) := by
  unfold pNe; simp [sc2, PyData.eqv]; rfl
omit [Tb] in
@[simp ↓] theorem pNe_ss (i j : Str) (R : PyData → Prop) : pNe (.str i) (.str j) R = R (.bool (!decide (i = j))) := by
  unfold pNe; simp [sc2, PyData.eqv]
  have : (i == j) = decide (i = j) := by rw [Bool.eq_iff_iff]; simp
  simp only [bne, this]
omit [Tb] in
@[simp ↓] theorem pNe_bb (i j : Bool) (R : PyData → Prop) : pNe (.bool i) (.bool j) R = R (.bool (!(i == j))) := by
  unfold pNe; simp [sc2, PyData.eqv]
omit [Tb] in
@[simp ↓] theorem pNe_tt (xs ys : List PyData) (R : PyData → Prop) : pNe (.tuple xs) (.tuple ys) R = (SeqAt.shaped (.tuple xs) = true ∧ SeqAt.shaped (.tuple ys) = true ∧ R (.bool (!PyData.eqvAll xs ys))) := by
  unfold pNe; simp [sc2, PyData.eqv, and_assoc]
omit [Tb] in
@[simp ↓] theorem pNe_ll (xs ys : List PyData) (R : PyData → Prop) : pNe (.list xs) (.list ys) R = (SeqAt.shaped (.list xs) = true ∧ SeqAt.shaped (.list ys) = true ∧ R (.bool (!PyData.eqvAll xs ys))) := by
  unfold pNe; simp [sc2, PyData.eqv, and_assoc]
end DL
set_option Elab.async false
set_option linter.all false
set_option maxRecDepth 100000
set_option maxHeartbeats 4000000
namespace DL
open PySem PySem.Spec PyProof.Rows L2
variable [Tb]

section
variable {K : PySem.W.Frag} {B B0 G H : Hp} {δ : DS} {σ : L2.St}
theorem Rel.less (R : Rel K B G δ σ H) (h : ∀ a, B0 a = B a ∨ B0 a = none) : Rel K B0 G δ σ H := by
  refine ⟨R.len, R.sg, fun a o e => ?_, fun a => ?_, R.ok, R.ap, fun i c a e m => ?_, ⟨R.tt.t, R.tt.n.lessB fun a o e => by
    rcases h a with z | z
    · rw [z] at e; exact e
    · rw [z] at e; cases e⟩⟩
  · rcases h a with z | z
    · rw [z] at e; exact R.sb _ _ e
    · rw [z] at e; cases e
  · rcases h a with z | z
    · rw [z]; exact R.dj a
    · exact .inr z
  · obtain ⟨f1, f2⟩ := R.fr i c a e m
    refine ⟨f1, ?_⟩
    rcases h a with z | z
    · rw [z]; exact f2
    · exact z
theorem Rel.more {l : List Addr} (R : Rel K B G δ σ H) (hg : ∀ a ∈ l, G a = none) (hc : ∀ (i : Nat) (c : Cell) (a : Addr), δ[i]? = some c → a ∈ c.fp → a ∉ l) (hn : ∀ a ∈ l, ∀ o, H a = some o → notTE o) : Rel K (bov B H l) G δ σ H := by
  refine ⟨R.len, R.sg, fun a o e => ?_, fun a => ?_, R.ok, R.ap, fun i c a e m => ?_, ⟨R.tt.t, ⟨fun a o e => by
    unfold bov at e
    split at e
    · rename_i hm; exact hn a hm o e
    · exact R.tt.n.b a o e, R.tt.n.g⟩⟩⟩
  · unfold bov at e
    split at e
    · exact e
    · exact R.sb _ _ e
  · unfold bov
    split
    · rename_i hm; exact .inl (hg a hm)
    · exact R.dj a
  · obtain ⟨f1, f2⟩ := R.fr i c a e m
    refine ⟨f1, ?_⟩
    unfold bov
    rw [if_neg (hc i c a e m)]; exact f2
end

abbrev DSpM := List Cell → (Cell → List Cell → Prop) → Prop
def liftM (K : PySem.W.Frag) (sp : DSpM) : Sp := fun vs H Q _ => ∃ B G cs R, Rel K B G cs (vs.map some) H ∧ sp cs R ∧ ∀ v H' G' c cs', R c cs' → Same G G' → Rel K (bov B H' c.fp) G' cs' (vs.map some) H' → (∀ a ∈ c.fp, B a = none) → CellOk K G' H' c (some v) → Q v H'
def wCallM (m : List Bool) (sp : DSpM) (w : DA) : DM := fun δ R => w δ fun os δ1 => lkM m os δ1 fun os' δ2 => (slotsOf os').Nodup ∧ sp (os'.map (cellOf δ2)) fun c cs => R c (putBack os' cs δ2)
def askM (sp : DSpM) (cs : List Cell) (R : Cell → List Cell → Prop) (_u : Stop R) : Prop := sp cs R
omit [Tb] in
@[simp ↓] theorem wCallM_ap (m : List Bool) (sp : DSpM) (w : DA) (δ : DS) (R : Cell → DS → Prop) : wCallM m sp w δ R = (w δ fun os δ1 => lkM m os δ1 fun os' δ2 => (slotsOf os').Nodup ∧ askM sp (os'.map (cellOf δ2)) (fun c cs => R c (putBack os' cs δ2)) .mk) := rfl
section
variable {X : Cx} {k : Nat} {f : Addr} {fd : FuncData} {ps : List Str} {x : Str} {p pos : Pos} {e : Expr} {es : List Expr}
theorem jm_call {m : List Bool} {sp : DSpM} {w : DA} (F : FnG X.prog X.w X.K X.mg X.base CX0 k f fd ps (liftM X.K sp)) (hr : RoomG k X.A) (hg : Gl X x) (hm : X.mg x = some (.ref f)) (hk : PySem.W.keepIn X.K (.ref f) = true) (hb : Binds X.K fd ps [])
    (ha : JA X (e :: es) w) (hdb : (x == ("__debug__" : Str)) = false := by decide) (he : starEach (e :: es) X.env = (false, eval e X.env) :: starEach es X.env := by rfl) (hpl : (backTo pos (starEach es X.env)).any (·.1) = false := by rfl) : JM X (.Call (.Name x p) (e :: es) [] pos) (wCallM m sp w) :=
  pe_le (pe_callG (E := E0) F hr hg hm hk hb pass0 ha hdb he hpl) fun pins s σ H Q I ⟨B, G, δ, R, rel, hw, k⟩ => ⟨B, G, δ, _, rel, hw, fun vs H1 G1 os δ1 r1 s1 rel1 ok1 => by
    obtain ⟨G2, δ2, os', ⟨nd, q⟩, s2, rel2, ok2⟩ := lkM_ok rel1 ok1 r1
    rw [List.append_nil]
    refine ⟨_, G2, _, _, call_rel rel2 ok2 nd, q, fun v H' G' c cs r s3 rel3 hB okc => ?_⟩
    have low : Rel X.K (hold B H1 δ2 (slotsOf os')) G' cs (vs.map some) H' := rel3.less fun a => by
      unfold bov
      split
      · rename_i hm; exact .inr (hB a hm)
      · exact .inl rfl
    have rel4 := call_back rel2 ok2 nd s3 low
    have hlen : os'.length = cs.length := by rw [← opds_len ok2, ← low.len, List.length_map]
    have tr : ∀ a ∈ c.fp, ∃ o, H' a = some o := fun a m => cell_tr okc m
    have hB0 : ∀ a ∈ c.fp, B a = none := fun a m => by
      have z := hB a m
      by_cases h : ∃ i c, δ2[i]? = some c ∧ a ∈ c.fp ∧ i ∉ slotsOf os'
      · obtain ⟨i, c', h1, h2, _⟩ := h
        exact (rel2.fr i c' a h1 h2).2
      · rw [hold_out h] at z; exact z
    have hG : ∀ a ∈ c.fp, G' a = none := fun a m => by
      rcases rel3.dj a with z | z
      · exact z
      · unfold bov at z
        rw [if_pos m] at z
        obtain ⟨o, eo⟩ := tr a m
        rw [eo] at z; cases z
    refine k v H' G' c _ r (s1.trans (s2.trans s3)) (rel4.more hG (fun i c' a e m ma => ?_) fun a m => cell_te okc m) hB0 okc
    rcases putBack_at hlen nd e with ⟨h1, h2⟩ | ⟨j, h1, h2⟩
    · have z := hB a ma
      rw [hold_in ⟨i, c', h2, m, h1⟩] at z
      obtain ⟨o, eo⟩ := rel2.tr h2 m
      rw [eo] at z; cases z
    · obtain ⟨_, f2⟩ := rel3.fr j c' a h2 m
      unfold bov at f2
      rw [if_pos ma] at f2
      obtain ⟨o, eo⟩ := tr a ma
      rw [eo] at f2; cases f2⟩
end

def spDeck : DSpM := fun cs R => ∃ a ns, cs = [.scr a ns] ∧ ∀ p b c, R (.dk p b c) [.scr a ns]
def wCut (i : Nat) : DE := fun δ R => ∃ a ns, δ[i]? = some (.scr a ns) ∧ R (.d (.list ((ns.take 63).map PyData.int))) δ
omit [Tb] in
@[simp ↓] theorem wCut_ap (i : Nat) (δ : DS) (R : Opd → DS → Prop) : wCut i δ R = (∃ a ns, δ[i]? = some (.scr a ns) ∧ R (.d (.list ((ns.take 63).map PyData.int))) δ) := rfl
theorem cutV_take (xs : List V) (n : Nat) : cutV xs none (some (n : Int)) = xs.take n := by
  unfold cutV
  rw [HT.sIx_none, HT.sIx_nat]
  simp only [List.drop_zero, Nat.sub_zero]
  by_cases h : n ≤ xs.length
  · rw [Nat.min_eq_left h]
  · rw [Nat.min_eq_right (by omega), List.take_of_length_le (by omega), List.take_of_length_le (by omega)]
theorem je_cut {X : Cx} {i : Nat} {x : Str} {px p1 p2 pos : Pos} {k1} (h : PE X (.Name x px) (tVar i)) : JE X (.Subscript (.Name x px) (.Slice none (some (.Constant (.int 63) k1 p1)) none p2) pos) (wCut i) :=
  pe_le (pe_slice sl_list h po_none (po_some pe_int)) fun pins s σ H Q I ⟨B, G, δ, R, rel, ⟨a, ns, hδ, hw⟩, k⟩ => by
    obtain ⟨o, hσ, rfl, hq⟩ := rel.at hδ
    refine ⟨.ref a, hσ, 63, rfl, a, ns.map V.int, rfl, rel.sg.seq hq, fun p np => ?_⟩
    obtain ⟨rel3, s3⟩ := rel.laid (o := .lst (cutV (ns.map V.int) none (some 63))) np
    refine k _ _ _ _ _ hw s3 rel3 (Dn.lst upd_same ?_)
    rw [show (63 : Int) = ((63 : Nat) : Int) from rfl, cutV_take, ← List.map_take]
    exact DnL.ints _
def wDk1 : DTS := wSet 1 (mL (wComp (iSeq (wCut 0)) (gN 2) tT (wFn pAbs (wCons (wVar 2) wNil)) [2]))
def wDk2 : DMs := msCons (mL (wComp (iSeq (wVar 1)) (gN 2) (wB (wOp pGe (wVar 2) (wOp pPow (wC (.int 10)) (wC (.int 18))))) (wVar 2) [2]))
  (msCons (mL (wOpL pAddL (wVar 1) (wOfL (wLst (wCons (wOp pAdd (wC (.int 11228)) (wFn pLen (wCons (wVar 1) wNil))) wNil))))) (msCons (mE (wC (.int 0))) msNil))
theorem comp_abs {δ : DS} {R : List PyData → DS → Prop} {d0 d1 : Cell} (hd : δ = [d0, d1, .em]) (k : ∀ ms : List Int, ms.length ≤ 63 → R (ms.map PyData.int) δ) (ns : List Int) (hn : ns.length ≤ 63) :
    compIt (gN 2) tT (wFn pAbs (wCons (wVar 2) wNil)) [2] (ns.map PyData.int) [] δ R := by
  refine com_inv (u := .mk) (fun xs acc δ' => δ' = δ ∧ ∃ ns ms : List Int, xs = ns.map PyData.int ∧ acc = ms.map PyData.int ∧ ms.length + ns.length ≤ 63) ⟨rfl, ns, [], rfl, rfl, by simpa using hn⟩ ?_ ?_
  · rintro acc δ' ⟨rfl, ns, ms, h1, rfl, h3⟩
    exact k ms (by omega)
  · rintro x xs acc δ' ⟨rfl, ns, ms, h1, rfl, h3⟩ K ih
    cases ns with
    | nil => cases h1
    | cons n ns =>
      simp only [List.map_cons, List.cons.injEq] at h1
      obtain ⟨rfl, rfl⟩ := h1
      subst hd
      simp
      exact ih _ _ ⟨rfl, ns, ms ++ [if n < 0 then -n else n], rfl, by simp, by simp at h3 ⊢; omega⟩
theorem comp_ge {δ : DS} {R : List PyData → DS → Prop} {d0 d1 : Cell} (hd : δ = [d0, d1, .em]) (k : ∀ ms : List Int, (∀ x ∈ ms, 0 ≤ x) → R (ms.map PyData.int) δ) (ns : List Int) :
    compIt (gN 2) (wB (wOp pGe (wVar 2) (wOp pPow (wC (.int 10)) (wC (.int 18))))) (wVar 2) [2] (ns.map PyData.int) [] δ R := by
  refine com_inv (u := .mk) (fun xs acc δ' => δ' = δ ∧ ∃ ns ms : List Int, xs = ns.map PyData.int ∧ acc = ms.map PyData.int ∧ ∀ x ∈ ms, 0 ≤ x) ⟨rfl, ns, [], rfl, rfl, by simp⟩ ?_ ?_
  · rintro acc δ' ⟨rfl, ns, ms, h1, rfl, h3⟩
    exact k ms h3
  · rintro x xs acc δ' ⟨rfl, ns, ms, h1, rfl, h3⟩ K ih
    cases ns with
    | nil => cases h1
    | cons n ns =>
      simp only [List.map_cons, List.cons.injEq] at h1
      obtain ⟨rfl, rfl⟩ := h1
      subst hd
      simp [CPow]
      split
      · exact ih _ _ ⟨rfl, ns, ms ++ [n], rfl, by simp, fun x hx => by
          rcases List.mem_append.mp hx with q | q
          · exact h3 x q
          · rw [List.mem_singleton.mp q]; omega⟩
      · exact ih _ _ ⟨rfl, ns, ms, rfl, rfl, h3⟩
theorem ok_deck {P : Program} {w : World} {K : PySem.W.Frag} {mg : Str → Option Value} {base : Heap} {x qual : Str} {st : Stmt} {f : Addr} {fd : FuncData} {N ps : List Str} {k : Nat} {st1 : Stmt} {es : List Expr} {p1 p2 : Pos} (F : Fun K x qual st f fd) (S : FnScope N ps (defScope st)) (hN : N.length = 3) (hp : ps.length = 1)
    (hb : defBody st = [st1, .Return (some (.List es p1)) p2])
    (h1 : ∀ (cdv : Value) (A : Around) (outer : List Env) (s : Shared) (H : Hp) (E : XK), RoomG k (A.deeper (envOfC qual (defScope st) s.heap.objs.size f cdv)) → JS (cxOf CX0 P w K mg base N qual (defScope st) f cdv A outer s H E).nox st1 wDk1)
    (h2 : ∀ (cdv : Value) (A : Around) (outer : List Env) (s : Shared) (H : Hp) (E : XK), RoomG k (A.deeper (envOfC qual (defScope st) s.heap.objs.size f cdv)) → JMs (cxOf CX0 P w K mg base N qual (defScope st) f cdv A outer s H E).nox es wDk2) : FnG P w K mg base CX0 (k + 1) f fd ps (liftM K spDeck) := by
  obtain ⟨oc, od, kV, doc, pm, an, cdv, ct, osl, rfl, lk', hcd⟩ := F.ex
  refine fnG_of lk' hcd S (fun vs H Q E ⟨B, G, cs, R, rel, ⟨a, ns, e, _⟩, _⟩ => by have := rel.len; subst e; simp at this; omega) fun A outer s H vs Q E hr ⟨B, G, cs, R, rel, ⟨a, ns, e, hR⟩, kk⟩ => ?_
  subst e
  rw [hb]
  refine ⟨_, (pss_cons (h1 cdv A outer s H E hr) (pss_one (ps_ret (pe_lst (h2 cdv A outer s H E hr))))).nox, ?_⟩
  have e0 : start0 N.length [Cell.scr a ns] = [.scr a ns, .em, .em] := by rw [hN]; rfl
  refine ⟨B, G, [.scr a ns, .em, .em], { nx := fun δ => ∃ q xs, δ = [.scr a ns, .ol q (xs.map PyData.int), .em] ∧ (xs : List Int).length ≤ 63, rt := fun _ _ => False }, e0 ▸ rel_start rel, ?_, ?_⟩
  · unfold wDk1
    simp
    refine ⟨a, ns, ⟨rfl, rfl⟩, ?_⟩
    rw [← List.map_take]
    exact comp_abs rfl (fun ms hm q => ⟨q, ms, by simp [hm]⟩) _ (by rw [List.length_take]; omega)
  · refine ⟨?_, fun _ _ _ _ _ _ h => h.elim, fun _ _ _ _ h => h.elim, fun _ _ _ _ h => h.elim⟩
    rintro σ1 H1 G1 δ1 ⟨q, xs, rfl, hx⟩ s1 rel1
    refine ⟨B, G1, _, fun cs δ => ∃ (q1 q2 : Addr) (ms ys : List Int) (d1 : Cell), cs = [.ol q1 (ms.map PyData.int), .ol q2 (ys.map PyData.int), .d (.int 0)] ∧ δ = [.scr a ns, d1, .em] ∧ (∀ x ∈ ms, (0 : Int) ≤ x) ∧ ys ≠ [], rel1, ?_, ?_⟩
    · unfold wDk2
      simp
      refine comp_ge rfl (fun ms hm q1 => ?_) _
      simp
      refine ⟨by omega, fun q2 => ⟨q1, q2, ms, xs ++ [11228 + (xs.length : Int)], ⟨⟨rfl, rfl⟩, rfl, by simp⟩, hm, by simp⟩⟩
    · rintro vs2 H2 G2 cs δ2 ⟨b, c, ms, ys, d1, rfl, rfl, hm, hy⟩ s2 rel2 hB2 ok2
      cases ok2 with
      | cons o1 n1 t1 =>
        cases t1 with
        | cons o2 n2 t2 =>
          cases t2 with
          | cons o3 n3 t3 =>
            cases t3
            obtain ⟨e1, w1, hb, t1⟩ := o1
            obtain ⟨e2, w2, hc, t2⟩ := o2
            obtain ⟨v3, e3, t3⟩ := o3
            cases e1
            cases e2
            cases e3
            obtain rfl := t1.toInts
            obtain rfl := t2.toInts
            obtain rfl := dn_int t3
            refine ⟨by show 3 ≤ sizeLine; rw [sizeLine_eq]; omega, fun p np => ?_⟩
            have bc : b ≠ c := fun e => n1 b (by simp [Cell.fp]) (by simp [fps, Cell.fp, e])
            have pb : p ≠ b := fun e => by rw [e, hb] at np; cases np
            have pc : p ≠ c := fun e => by rw [e, hc] at np; cases np
            have rel3 := rel_end rel (rel2.growB (o := .lst [.ref b, .ref c, .int 0]) np |>.less (B0 := B) fun a => ?_) (s1.trans s2) (show sameIo [Cell.scr a ns] _ from trivial)
            · have eb : (fps [Cell.ol b (ms.map PyData.int), Cell.ol c (ys.map PyData.int), Cell.d (.int 0)]) = [b, c] := rfl
              rw [eb] at rel2 hB2
              have hB : ∀ a ∈ [p, b, c], B a = none := fun a m => by
                rcases List.mem_cons.mp m with e | m
                · rw [e]
                  have z := rel2.freeB np
                  unfold bov at z
                  rw [if_neg (by simp [pb, pc])] at z; exact z
                · exact hB2 a m
              refine kk _ _ G2 (.dk p b c) _ (hR p b c) (s1.trans s2) (rel3.more (fun a m => ?_) ?_ fun a m => cell_te (K := K) (G := G2) (c := .dk p b c) (o := some (.ref p)) ⟨rfl, pb, pc, bc, 0, ms, ys, upd_same, by rw [upd_ne pb.symm]; exact hb, by rw [upd_ne pc.symm]; exact hc, hy, hm⟩ m) hB ⟨rfl, pb, pc, bc, 0, ms, ys, upd_same, by rw [upd_ne pb.symm]; exact hb, by rw [upd_ne pc.symm]; exact hc, hy, hm⟩
              · rcases List.mem_cons.mp m with e | m
                · rw [e]; exact rel2.freeG np
                · rcases rel2.dj a with z | z
                  · exact z
                  · unfold bov at z
                    rw [if_pos m] at z
                    have m' : a = b ∨ a = c := by simpa using m
                    rcases m' with rfl | rfl
                    · rw [hb] at z; cases z
                    · rw [hc] at z; cases z
              · intro i c' a' e m
                have : c' = .scr a ns := by
                  cases i with
                  | zero => simp [outC] at e; exact e.symm
                  | succ i => simp [outC] at e
                rw [this] at m; cases m
            · by_cases h : a = p
              · refine .inr ?_
                rw [h]
                have z := rel2.freeB np
                unfold bov at z
                split at z
                · rename_i hm2
                  rw [z] at np
                  have : H2 p = none := z
                  rcases (show p = b ∨ p = c by simpa [fps, Cell.fp] using hm2) with e | e
                  · exact absurd e pb
                  · exact absurd e pc
                · exact z
              · rw [upd_ne h]
                unfold bov
                split
                · rename_i hm2
                  exact .inr (hB2 a hm2)
                · exact .inl rfl
end DL
set_option Elab.async false
set_option linter.all false
set_option maxRecDepth 100000
set_option maxHeartbeats 4000000
namespace DL
open PySem PySem.Spec PyProof.Rows L2
variable [Tb]

section
variable {K : PySem.W.Frag} {B G H : Hp} {δ : DS} {σ : L2.St}
theorem Rel.put {i : Nat} {c c' : Cell} {p : Addr} {o : HO} {ov : Option V} (R : Rel K B G δ σ H) (h : δ[i]? = some c) (hσ : σ[i]? = some ov) (hp : p ∈ c.fp) (hf : c'.fp = c.fp) (ok : CellOk K G (upd H p o) c' ov) : Rel K B G (δ.set i c') σ (upd H p o) := by
  obtain ⟨ga, ba⟩ := R.fr i _ p h hp
  have hi : i < δ.length := (List.getElem?_eq_some_iff.mp h).1
  have get : ∀ {j : Nat} {x : Cell}, (δ.set i c')[j]? = some x → (j = i ∧ x = c') ∨ (j ≠ i ∧ δ[j]? = some x) := fun {j x} e => by
    by_cases hj : j = i
    · subst hj
      rw [List.getElem?_set_self hi] at e; cases e; exact .inl ⟨rfl, rfl⟩
    · rw [List.getElem?_set_ne (Ne.symm hj)] at e; exact .inr ⟨hj, e⟩
  refine ⟨by simp [R.len], fun b x q => ?_, fun b x q => ?_, R.dj, fun j x w e1 e2 => ?_, fun j k x y z e1 e2 m1 m2 => ?_, fun j x z e1 m => ?_, ⟨tabs_upd R.tt.t (cell_te (R.ok i c _ h hσ) hp), R.tt.n⟩⟩
  · rw [upd_ne (fun z => by rw [z, ga] at q; cases q)]; exact R.sg _ _ q
  · rw [upd_ne (fun z => by rw [z, ba] at q; cases q)]; exact R.sb _ _ q
  · rcases get e1 with ⟨rfl, rfl⟩ | ⟨hj, e1⟩
    · rw [hσ] at e2; cases e2; exact ok
    · refine (R.ok j x w e1 e2).stay (Same.refl _) fun b hb => upd_ne fun q => ?_
      rw [q] at hb
      exact hj (R.ap j i x _ p e1 h hb hp)
  · rcases get e1 with h1 | h1
    · obtain ⟨h1, e1'⟩ := h1
      rw [e1'] at m1
      rcases get e2 with ⟨h2, e3⟩ | ⟨h2, e3⟩
      · rw [h1, h2]
      · exact h1.trans (R.ap i k _ y z h e3 (by rw [← hf]; exact m1) m2)
    · rcases get e2 with ⟨h2, e3⟩ | ⟨h2, e3⟩
      · rw [e3] at m2
        exact (R.ap j i x _ z h1.2 h m1 (by rw [← hf]; exact m2)).trans h2.symm
      · exact R.ap j k x y z h1.2 e3 m1 m2
  · rcases get e1 with ⟨_, rfl⟩ | ⟨hj, e1⟩
    · exact R.fr i _ z h (by rw [← hf]; exact m)
    · exact R.fr j x z e1 m
theorem Rel.swap {i : Nat} {c c' : Cell} {ov : Option V} (R : Rel K B G δ σ H) (h : δ[i]? = some c) (hσ : σ[i]? = some ov) (hf : c'.fp = c.fp) (ok : CellOk K G H c' ov) : Rel K B G (δ.set i c') σ H :=
  R.recell hσ ok fun a m => ⟨R.fr i c a h (by rw [← hf]; exact m), fun j x hj e m2 => hj (R.ap j i x c a e h m2 (by rw [← hf]; exact m))⟩
end

def wK2 (i : Nat) : DE := fun δ R => ∃ a b c xs n ys, δ[i]? = some (.dx a b c xs n ys) ∧ R (.d (.int n)) δ
def wK00 (i : Nat) : DE := fun δ R => ∃ a b c xs n ys x, δ[i]? = some (.dx a b c xs n ys) ∧ xs.head? = some x ∧ R (.d (.int x)) δ
def wKne (i : Nat) : DT := fun δ R => ∃ a b c xs n ys, δ[i]? = some (.dx a b c xs n ys) ∧ R (!xs.isEmpty) δ
def wK1 (i : Nat) (w : DE) : DE := fun δ R => ∃ a b c xs n ys, δ[i]? = some (.dx a b c xs n ys) ∧ w δ fun o δ1 => use o δ1 fun d => ∃ j z, d = .int j ∧ δ1[i]? = some (.dx a b c xs n ys) ∧ atI ys j = some z ∧ R (.d (.int z)) δ1
def wKlen (i : Nat) : DE := fun δ R => ∃ a b c xs n ys, δ[i]? = some (.dx a b c xs n ys) ∧ R (.d (.int (ys.length : Nat))) δ
def wPut00 (i : Nat) (w : DE) : DTS := fun E δ => w δ fun o δ1 => use o δ1 fun d => ∃ v a b c x xs n ys, d = .int v ∧ δ1[i]? = some (.dx a b c (x :: xs) n ys) ∧ E.nx (δ1.set i (.dx a b c (v :: xs) n ys))
def wPop0 (i : Nat) : DTS := fun E δ => ∃ a b c x xs n ys, δ[i]? = some (.dx a b c (x :: xs) n ys) ∧ E.nx (δ.set i (.dx a b c xs n ys))
def wPut2 (i : Nat) (w : DE) : DTS := fun E δ => w δ fun o δ1 => use o δ1 fun d => ∃ v a b c xs n ys, d = .int v ∧ δ1[i]? = some (.dx a b c xs n ys) ∧ E.nx (δ1.set i (.dx a b c xs v ys))
def asX (c : Option Cell) (k : Addr → Addr → Addr → List Int → Int → List Int → Prop) : Prop := match c with
  | some (.dx a b c xs n ys) => k a b c xs n ys
  | _ => False
omit [Tb] in
@[simp ↓] theorem asX_x (a b c : Addr) (xs : List Int) (n : Int) (ys : List Int) (k : Addr → Addr → Addr → List Int → Int → List Int → Prop) : asX (some (.dx a b c xs n ys)) k = k a b c xs n ys := rfl
theorem ex_x (c : Option Cell) (k : Addr → Addr → Addr → List Int → Int → List Int → Prop) : (∃ p q r xs n ys, c = some (.dx p q r xs n ys) ∧ k p q r xs n ys) = asX c k := by
  cases c with
  | none => simp [asX]
  | some c =>
    cases c with
    | dx p q r xs n ys =>
      refine propext ⟨fun ⟨_, _, _, _, _, _, e, h⟩ => ?_, fun h => ⟨_, _, _, _, _, _, rfl, h⟩⟩
      cases e; exact h
    | _ => simp [asX]
def head1 (xs : List Int) (k : Int → List Int → Prop) : Prop := match xs with
  | x :: r => k x r
  | [] => False
omit [Tb] in
@[simp] theorem head1_c (x : Int) (xs : List Int) (k : Int → List Int → Prop) : head1 (x :: xs) k = k x xs := rfl
omit [Tb] in
@[simp ↓] theorem wK2_ap (i : Nat) (δ : DS) (R : Opd → DS → Prop) : wK2 i δ R = asX δ[i]? fun a b c xs n ys => R (.d (.int n)) δ := by
  rw [← ex_x]; rfl
omit [Tb] in
@[simp ↓] theorem wK00_ap (i : Nat) (δ : DS) (R : Opd → DS → Prop) : wK00 i δ R = asX δ[i]? fun a b c xs n ys => head1 xs fun x _ => R (.d (.int x)) δ := by
  rw [← ex_x]
  refine propext ⟨fun ⟨a, b, c, xs, n, ys, x, h, h2, q⟩ => ⟨a, b, c, xs, n, ys, h, ?_⟩, fun ⟨a, b, c, xs, n, ys, h, q⟩ => ?_⟩
  · cases xs with
    | nil => cases h2
    | cons y r => cases h2; exact q
  · cases xs with
    | nil => exact q.elim
    | cons y r => exact ⟨a, b, c, _, n, ys, y, h, rfl, q⟩
omit [Tb] in
@[simp ↓] theorem wKne_ap (i : Nat) (δ : DS) (R : Bool → DS → Prop) : wKne i δ R = asX δ[i]? fun a b c xs n ys => R (!xs.isEmpty) δ := by
  rw [← ex_x]; rfl
omit [Tb] in
@[simp ↓] theorem wK1_ap (i : Nat) (w : DE) (δ : DS) (R : Opd → DS → Prop) : wK1 i w δ R = asX δ[i]? fun a b c xs n ys => w δ fun o δ1 => use o δ1 fun d => asI d (fun j => δ1[i]? = some (.dx a b c xs n ys) ∧ onS (atI ys j) (fun z => R (.d (.int z)) δ1) .mk) .mk := by
  rw [← ex_x]; simp only [← ex_int, ← ex_some, ← exists_and_left]; rfl
omit [Tb] in
@[simp ↓] theorem wKlen_ap (i : Nat) (δ : DS) (R : Opd → DS → Prop) : wKlen i δ R = asX δ[i]? fun a b c xs n ys => R (.d (.int (ys.length : Nat))) δ := by
  rw [← ex_x]; rfl
omit [Tb] in
@[simp ↓] theorem wPut00_ap (i : Nat) (w : DE) (E : DEnds) (δ : DS) : wPut00 i w E δ = (w δ fun o δ1 => use o δ1 fun d => asI d (fun v => asX δ1[i]? fun a b c xs n ys => head1 xs fun _ r => E.nx (δ1.set i (.dx a b c (v :: r) n ys))) .mk) := by
  unfold wPut00
  simp only [← ex_x, ← ex_int]
  congr 1; funext o δ1; congr 1; funext d
  refine propext ⟨fun ⟨v, a, b, c, x, xs, n, ys, h0, h, q⟩ => ⟨v, h0, a, b, c, _, n, ys, h, q⟩, fun ⟨v, h0, a, b, c, xs, n, ys, h, q⟩ => ?_⟩
  cases xs with
  | nil => exact q.elim
  | cons y r => exact ⟨v, a, b, c, y, r, n, ys, h0, h, q⟩
omit [Tb] in
@[simp ↓] theorem wPop0_ap (i : Nat) (E : DEnds) (δ : DS) : wPop0 i E δ = asX δ[i]? fun a b c xs n ys => head1 xs fun _ r => E.nx (δ.set i (.dx a b c r n ys)) := by
  rw [← ex_x]
  refine propext ⟨fun ⟨a, b, c, x, xs, n, ys, h, q⟩ => ⟨a, b, c, _, n, ys, h, q⟩, fun ⟨a, b, c, xs, n, ys, h, q⟩ => ?_⟩
  cases xs with
  | nil => exact q.elim
  | cons y r => exact ⟨a, b, c, y, r, n, ys, h, q⟩
omit [Tb] in
@[simp ↓] theorem wPut2_ap (i : Nat) (w : DE) (E : DEnds) (δ : DS) : wPut2 i w E δ = (w δ fun o δ1 => use o δ1 fun d => asI d (fun v => asX δ1[i]? fun a b c xs n ys => E.nx (δ1.set i (.dx a b c xs v ys))) .mk) := by
  unfold wPut2
  simp only [← ex_x, ← ex_int]
  congr 1; funext o δ1; congr 1; funext d
  exact propext ⟨fun ⟨v, a, b, c, xs, n, ys, h0, h, q⟩ => ⟨v, h0, a, b, c, xs, n, ys, h, q⟩, fun ⟨v, h0, a, b, c, xs, n, ys, h, q⟩ => ⟨v, a, b, c, xs, n, ys, h0, h, q⟩⟩
section
variable {X : Cx} {i : Nat} {x : Str} {px pos p1 p2 p3 p4 p5 : Pos} {k1 k2 : Nat}
theorem atI_map {α β : Type} (f : α → β) (xs : List α) (j : Int) : atI (xs.map f) j = (atI xs j).map f := by
  unfold atI
  rw [List.length_map]
  cases ixN xs.length j with
  | none => rfl
  | some k => simp
theorem je_k2 (h : PE X (.Name x px) (tVar i)) : JE X (.Subscript (.Name x px) (.Constant (.int 2) k1 p1) pos) (wK2 i) :=
  pe_le (pe_ix ix_list h pe_int (fun _ _ => rfl)) fun pins s σ H Q I ⟨B, G, δ, R, rel, ⟨a, b, c, xs, n, ys, hδ, hw⟩, k⟩ => by
    obtain ⟨o, hσ, rfl, h1, h2, h3, e1, e2, e3⟩ := rel.at hδ
    exact ⟨.ref a, hσ, a, _, 2, .int n, rfl, rfl, SqL.of e1, rfl, k _ H G _ δ hw (Same.refl _) rel (Dn.int _)⟩
theorem je_k00 (h : PE X (.Name x px) (tVar i)) : JE X (.Subscript (.Subscript (.Name x px) (.Constant (.int 0) k1 p1) p2) (.Constant (.int 0) k2 p3) pos) (wK00 i) :=
  pe_le (pe_ix ix_list (pe_ix ix_list h pe_int (fun _ _ => rfl)) pe_int (fun _ _ => rfl)) fun pins s σ H Q I ⟨B, G, δ, R, rel, ⟨a, b, c, xs, n, ys, x, hδ, hx, hw⟩, k⟩ => by
    obtain ⟨o, hσ, rfl, h1, h2, h3, e1, e2, e3⟩ := rel.at hδ
    cases xs with
    | nil => cases hx
    | cons y xs =>
      cases hx
      exact ⟨.ref a, hσ, a, _, 0, .ref b, rfl, rfl, SqL.of e1, rfl, b, _, 0, .int x, rfl, rfl, SqL.of e2, by simp [atI, ixN], k _ H G _ δ hw (Same.refl _) rel (Dn.int _)⟩
theorem je_k1 {e : Expr} {w : DE} (h : PE X (.Name x px) (tVar i)) (he : JE X e w) (hs : PlainIx e) : JE X (.Subscript (.Subscript (.Name x px) (.Constant (.int 1) k1 p1) p2) e pos) (wK1 i w) :=
  pe_le (pe_ix ix_list (pe_ix ix_list h pe_int (fun _ _ => rfl)) he hs) fun pins s σ H Q I ⟨B, G, δ, R, rel, ⟨a, b, c, xs, n, ys, hδ, hw⟩, k⟩ => by
    obtain ⟨o, hσ, rfl, h1, h2, h3, e1, e2, e3⟩ := rel.at hδ
    refine ⟨.ref a, hσ, a, _, 1, .ref c, rfl, rfl, SqL.of e1, rfl, B, G, δ, _, rel, hw, fun v H1 G1 o δ1 r1 s1 rel1 ok1 => ?_⟩
    obtain ⟨d, ⟨j, z, rfl, hδ1, hz, q⟩, bd⟩ := use_ok rel1 ok1 r1
    obtain ⟨o', hσ', e', h1', h2', h3', e1', e2', e3'⟩ := rel1.at hδ1
    exact ⟨c, _, j, .int z, rfl, bor_int bd, SqL.of e3', by rw [atI_map, hz]; rfl, k _ H1 G1 _ δ1 q s1 rel1 (Dn.int _)⟩
theorem je_klen {xl : Str} {pl : Pos} (hg : Gl X xl) (hm : X.mg xl = none) (hv : bootBuiltins xl = some (.builtin "len")) (h : PE X (.Name x px) (tVar i)) (hn : xl ≠ "__name__" := by decide) (hdb : (xl == ("__debug__" : Str)) = false := by decide)
    (he : starEach [.Subscript (.Name x px) (.Constant (.int 1) k1 p1) p2] X.env = (false, eval (.Subscript (.Name x px) (.Constant (.int 1) k1 p1) p2) X.env) :: starEach [] X.env := by rfl) :
    JE X (.Call (.Name xl pl) [.Subscript (.Name x px) (.Constant (.int 1) k1 p1) p2] [] pos) (wKlen i) :=
  pe_le (pe_callB call_len hg hm hv (pa_cons (pe_ix ix_list h pe_int (fun _ _ => rfl)) pa_nil he) hn hdb he rfl) fun pins s σ H Q I ⟨B, G, δ, R, rel, ⟨a, b, c, xs, n, ys, hδ, hw⟩, k⟩ => by
    obtain ⟨o, hσ, rfl, h1, h2, h3, e1, e2, e3⟩ := rel.at hδ
    exact ⟨.ref a, hσ, a, _, 1, .ref c, rfl, rfl, SqL.of e1, rfl, _, _, rfl, .inl ⟨_, SqL.of e3, by simp⟩, k _ H G _ δ hw (Same.refl _) rel (Dn.int _)⟩
theorem dp_ints {K : PySem.W.Frag} {H : Hp} {a : Addr} {xs : List Int} (h : H a = some (.lst (xs.map V.int))) : Dp K H (.ref a) (.list (xs.map PyData.int)) :=
  .lst (SqL.of h) (by
    induction xs with
    | nil => exact .nil
    | cons x xs ih => exact .cons (.int _) (by
        clear h
        clear ih
        induction xs with
        | nil => exact .nil
        | cons x xs ih => exact .cons (.int _) ih))
theorem canLay_ints : ∀ xs : List Int, PyData.canLayAll0 (xs.map PyData.int) = true
  | [] => by simp [PyData.canLayAll0]
  | x :: xs => by simp [PyData.canLayAll0, PyData.canLay0, canLay_ints xs]
theorem depth_ints : ∀ xs : List Int, PyData.depthAll (xs.map PyData.int) = 0
  | [] => by simp [PyData.depthAll]
  | x :: xs => by simp [PyData.depthAll, PyData.depth, depth_ints xs]
theorem shaped_ints (xs : List Int) : SeqAt.shaped (.list (xs.map PyData.int)) = true := by
  simp [SeqAt.shaped, PyData.canLay0, PyData.depth, canLay_ints, depth_ints]
theorem eqv_nil (xs : List Int) : PyData.eqv (.list (xs.map PyData.int)) (.list []) = xs.isEmpty := by
  cases xs <;> simp [PyData.eqv, PyData.eqvAll]
theorem jt_kne (hu : X.A.units + 64 < cLine) (h : PE X (.Name x px) (tVar i)) (hm : behindInMarks .NotEq (.List [] p3) = false := by rfl) : JT X (.Compare (.Subscript (.Name x px) (.Constant (.int 0) k1 p1) p2) [.NotEq] [.List [] p3] pos) (wKne i) :=
  pt_le (pt_cmpR (op_neD hu) (pe_ix ix_list h pe_int (fun _ _ => rfl)) (pe_lst pa_nil) hm) fun pins s σ H Q I ⟨B, G, δ, R, rel, ⟨a, b, c, xs, n, ys, hδ, hw⟩, k⟩ => by
    obtain ⟨o, hσ, rfl, h1, h2, h3, e1, e2, e3⟩ := rel.at hδ
    refine ⟨.ref a, hσ, a, _, 0, .ref b, rfl, rfl, SqL.of e1, rfl, Nat.zero_le _, fun p np => ?_⟩
    have hb : (upd H p (.lst [])) b = some (.lst (xs.map V.int)) := by rw [upd_ne (ne_of_none e2 np)]; exact e2
    refine ⟨_, .list [], dp_ints hb, .lst (SqL.of upd_same) .nil, shaped_ints xs, by decide, _, rfl, ?_⟩
    rw [eqv_nil]
    exact k _ _ G δ hw (Same.refl _) (rel.grow np)
theorem js_put00 {e : Expr} {w : DE} {pt : Pos} (h : PE X (.Name x px) (tVar i)) (he : JE X e w) (hs : swapsWithSole [.Subscript (.Subscript (.Name x px) (.Constant (.int 0) k1 p1) p2) (.Constant (.int 0) k2 p3) pt] e pos.line X.env = pure false := by rfl) (hw : swappedStores [.Subscript (.Subscript (.Name x px) (.Constant (.int 0) k1 p1) p2) (.Constant (.int 0) k2 p3) pt] e X.env = pure none := by rfl) :
    JS X (.Assign [.Subscript (.Subscript (.Name x px) (.Constant (.int 0) k1 p1) p2) (.Constant (.int 0) k2 p3) pt] e pos) (wPut00 i w) :=
  ps_le (ps_asg he (pg_sub (pe_ix ix_list h pe_int (fun _ _ => rfl)) pe_int set_list) hs hw) fun pins s σ H D I ⟨B, G, δ, E, rel, hw, k⟩ => ⟨B, G, δ, _, rel, hw, fun v H1 G1 o δ1 r1 s1 rel1 ok1 => by
    obtain ⟨d, ⟨j, a, b, c, x, xs, n, ys, rfl, hδ1, q⟩, bd⟩ := use_ok rel1 ok1 r1
    obtain ⟨o', hσ, rfl, h1, h2, h3, e1, e2, e3⟩ := rel1.at hδ1
    obtain rfl := bor_int bd
    refine ⟨.ref a, hσ, a, _, 0, .ref b, rfl, rfl, SqL.of e1, rfl, b, _, 0, 0, rfl, rfl, e2, by simp [ixN], ?_⟩
    exact k.nx _ _ G1 _ q s1 (rel1.put hδ1 hσ (by simp [Cell.fp]) rfl ⟨rfl, h1, h2, h3, by rw [upd_ne h1]; exact e1, by rw [upd_same]; rfl, by rw [upd_ne h3.symm]; exact e3⟩)⟩
theorem js_put2 {e : Expr} {w : DE} {pt : Pos} (h : PE X (.Name x px) (tVar i)) (he : JE X e w) (hs : swapsWithSole [.Subscript (.Name x px) (.Constant (.int 2) k1 p1) pt] e pos.line X.env = pure false := by rfl) (hw : swappedStores [.Subscript (.Name x px) (.Constant (.int 2) k1 p1) pt] e X.env = pure none := by rfl) :
    JS X (.Assign [.Subscript (.Name x px) (.Constant (.int 2) k1 p1) pt] e pos) (wPut2 i w) :=
  ps_le (ps_asg he (pg_sub h pe_int set_list) hs hw) fun pins s σ H D I ⟨B, G, δ, E, rel, hw, k⟩ => ⟨B, G, δ, _, rel, hw, fun v H1 G1 o δ1 r1 s1 rel1 ok1 => by
    obtain ⟨d, ⟨j, a, b, c, xs, n, ys, rfl, hδ1, q⟩, bd⟩ := use_ok rel1 ok1 r1
    obtain ⟨o', hσ, rfl, h1, h2, h3, e1, e2, e3⟩ := rel1.at hδ1
    obtain rfl := bor_int bd
    refine ⟨.ref a, hσ, a, _, 2, 2, rfl, rfl, e1, by simp [ixN], ?_⟩
    exact k.nx _ _ G1 _ q s1 (rel1.put hδ1 hσ (by simp [Cell.fp]) rfl ⟨rfl, h1, h2, h3, by rw [upd_same]; rfl, by rw [upd_ne h1.symm]; exact e2, by rw [upd_ne h2.symm]; exact e3⟩)⟩
theorem js_pop0 {apos cpos : Pos} (h : PE X (.Name x px) (tVar i)) (hs : swapsWith (.Call (.Attribute (.Subscript (.Name x px) (.Constant (.int 0) k1 p1) p2) "pop" apos) [.Constant (.int 0) k2 p3] [] cpos) none pos.line X.env = pure false := by rfl)
    (hb : PE X (.Call (.Attribute (.Subscript (.Name x px) (.Constant (.int 0) k1 p1) p2) "pop" apos) [.Constant (.int 0) k2 p3] [] cpos) (tBM X.K "list" rPopAt (tOp (rIxL X.K) (tVar i) (tC (.int 0))) (tCons (tC (.int 0)) tNil))) :
    JS X (.Expr (.Call (.Attribute (.Subscript (.Name x px) (.Constant (.int 0) k1 p1) p2) "pop" apos) [.Constant (.int 0) k2 p3] [] cpos) pos) (wPop0 i) :=
  ps_le (ps_expr hb hs) fun pins s σ H D I ⟨B, G, δ, E, rel, ⟨a, b, c, x, xs, n, ys, hδ, hw⟩, k⟩ => by
    obtain ⟨o', hσ, rfl, h1, h2, h3, e1, e2, e3⟩ := rel.at hδ
    refine ⟨.ref a, hσ, a, _, 0, .ref b, rfl, rfl, SqL.of e1, rfl, .inl ⟨rfl, _, SqL.of e2⟩, b, _, 0, 0, .int x, rfl, rfl, e2, by decide, by decide, by simp [seqIndex?], rfl, ?_⟩
    exact k.nx _ _ G _ hw (Same.refl _) (rel.put hδ hσ (by simp [Cell.fp]) rfl ⟨rfl, h1, h2, h3, by rw [upd_ne h1]; exact e1, by rw [upd_same]; rfl, by rw [upd_ne h3.symm]; exact e3⟩)
end
end DL
set_option Elab.async false
set_option linter.all false
set_option maxRecDepth 100000
set_option maxHeartbeats 4000000
namespace DL
open PySem PySem.Spec PyProof.Rows L2
variable [Tb]

theorem ixN_nn {n : Nat} {j : Int} (h0 : 0 ≤ j) (h1 : j < n) : ixN n j = some j.toNat := by
  unfold ixN
  simp [h0, h1]
theorem atI_nn {α : Type} {xs : List α} {j : Int} (h0 : 0 ≤ j) (h1 : j < xs.length) : atI xs j = xs[j.toNat]? := by
  unfold atI; rw [ixN_nn h0 h1]; rfl
theorem atI_ex {α : Type} {xs : List α} {j : Int} (h0 : 0 ≤ j) (h1 : j < xs.length) : ∃ z, z ∈ xs ∧ atI xs j = some z := by
  rw [atI_nn h0 h1]
  have h : j.toNat < xs.length := by omega
  exact ⟨xs[j.toNat], List.getElem_mem h, List.getElem?_eq_getElem h⟩
omit [Tb] in
@[simp] theorem atI_ofNat {α : Type} (xs : List α) (j : Nat) : atI xs (j : Int) = xs[j]? := by
  by_cases h : j < xs.length
  · rw [atI_nn (by omega) (by omega)]; simp
  · unfold atI
    have : ixN xs.length (j : Int) = none := by unfold ixN; simp; omega
    rw [this, List.getElem?_eq_none (by omega)]; rfl

omit [Tb] in
@[simp] theorem atI_0 {α : Type} (xs : List α) : atI xs 0 = xs[0]? := by
  have := atI_ofNat xs 0; simpa using this
omit [Tb] in
@[simp] theorem atI_1 {α : Type} (xs : List α) : atI xs 1 = xs[1]? := by
  have := atI_ofNat xs 1; simpa using this
omit [Tb] in
@[simp] theorem atI_lit {α : Type} (xs : List α) (n : Nat) : atI xs (no_index (OfNat.ofNat n : Int)) = xs[n]? := atI_ofNat xs n
omit [Tb] in
@[simp] theorem atI_m1 {α : Type} (xs : List α) : atI xs (-1) = xs.getLast? := by
  rw [List.getLast?_eq_getElem?]
  cases xs with
  | nil => rfl
  | cons x xs =>
    unfold atI ixN
    have h1 : ¬ (0 : Int) ≤ -1 := by omega
    have h2 : -(((x :: xs).length : Nat) : Int) ≤ -1 := by simp; omega
    rw [if_neg h1, if_pos h2]
    have : (-1 + (((x :: xs).length : Nat) : Int)).toNat = (x :: xs).length - 1 := by simp; omega
    rw [this]; rfl
def spDraw : DSp := fun cs R => ∃ a b c m, cs = [.dk a b c, .d (.int m)] ∧ 0 < m ∧ m.natAbs.log2 < 9000 ∧ ∀ r, 0 ≤ r → r < m → R (.int r) [.dk a b c, .d (.int m)]
def wDrawA : DTS := wSeq (wSet 2 (mE (wK00 0))) (wSeq (wPut00 0 (wOp pDiv (wVar 2) (wVar 1))) (wSeq (wIf (wB (wOp pEq (wK00 0) (wC (.int 0)))) (wPop0 0) wNext) (wRet (wOp pMod (wFn pInt (wCons (wVar 2) wNil)) (wVar 1)))))
def wDrawB : DTS := wSeq (wPut2 0 (wOp pAdd (wK2 0) (wC (.int 1)))) (wSeq (wSet 3 (mE (wK1 0 (wOp pMod (wFn pInt (wCons (wK2 0) wNil)) (wKlen 0)))))
  (wSeq (wSet 4 (mE (wOp pMod (wFn pInt (wCons (wOp pAdd (wOp pMod (wFn pInt (wCons (wVar 3) wNil)) (wC (.int 4294966477))) (wOp pMul (wC (.int 1640531513)) (wK2 0))) wNil)) (wC (.int 4294966477)))))
  (wSeq (wSet 4 (mE (wOp pMod (wFn pInt (wCons (wOp pAdd (wOp pMul (wVar 4) (wVar 4)) (wOp pMul (wC (.int 86028121)) (wK2 0))) wNil)) (wC (.int 4294966427)))))
  (wRet (wOp pMod (wOp pDiv (wOp pMod (wFn pInt (wCons (wOp pMul (wVar 4) (wVar 4)) wNil)) (wC (.int 4294966373))) (wC (.int 1024))) (wVar 1))))))
def wDraw : DTS := wSeq (wIf (wKne 0) wDrawA wNext) wDrawB
theorem cm_small {i j : Int} (h0 : 0 ≤ i) (h1 : i < 4294967296) : CMul i j ∨ CMulW i j := .inl (.inl ⟨by omega, by omega⟩)
theorem rd_draw {a b c : Addr} {m : Int} {xs ys : List Int} {n : Int} {E : DEnds} (hm : 0 < m) (hl : m.natAbs.log2 < 9000) (hy : ys ≠ []) (hx : ∀ x ∈ xs, 0 ≤ x)
    (k : ∀ r xs n d2 d3 d4, 0 ≤ r → r < m → (∀ x ∈ xs, (0 : Int) ≤ x) → E.rt (.int r) [.dx a b c xs n ys, .d (.int m), d2, d3, d4]) : wDraw E [.dx a b c xs n ys, .d (.int m), .em, .em, .em] := by
  unfold wDraw
  cases xs with
  | nil =>
    have hpos : 0 < ys.length := List.length_pos_iff.mpr hy
    obtain ⟨z, _, hz⟩ := atI_ex (xs := ys) (j := (n + 1) % (ys.length : Int)) (Int.emod_nonneg _ (by omega)) (Int.emod_lt_of_pos _ (by omega))
    simp [wDrawB]
    rw [hz]
    simp
    refine ⟨hpos, cm_small (by omega) (by omega), cm_small (by omega) (by omega), cm_small (by omega) (by omega), cm_small (by omega) (by omega), by decide, hm, k _ _ _ _ _ _ (Int.emod_nonneg _ (by omega)) (Int.emod_lt_of_pos _ hm) (by simp)⟩
  | cons x xs =>
    have h0 : 0 ≤ x := hx x (by simp)
    simp [wDrawA]
    refine ⟨⟨hm, hl⟩, ?_⟩
    split
    · exact ⟨hm, k _ _ _ _ _ _ (Int.emod_nonneg _ (by omega)) (Int.emod_lt_of_pos _ hm) fun y hy => hx y (by simp [hy])⟩
    · refine ⟨hm, k _ _ _ _ _ _ (Int.emod_nonneg _ (by omega)) (Int.emod_lt_of_pos _ hm) fun y hy => ?_⟩
      rcases List.mem_cons.mp hy with e | hy
      · rw [e]; exact Int.ediv_nonneg h0 (by omega)
      · exact hx y (by simp [hy])
theorem ok_draw {P : Program} {w : World} {K : PySem.W.Frag} {mg : Str → Option Value} {base : Heap} {x qual : Str} {st : Stmt} {f : Addr} {fd : FuncData} {N ps : List Str} {k : Nat} (F : Fun K x qual st f fd) (S : FnScope N ps (defScope st)) (hN : N.length = 5) (hp : ps.length = 2)
    (body : ∀ (cdv : Value) (A : Around) (outer : List Env) (s : Shared) (H : Hp) (E : XK), RoomG k (A.deeper (envOfC qual (defScope st) s.heap.objs.size f cdv)) → JSs (cxOf CX0 P w K mg base N qual (defScope st) f cdv A outer s H E).nox (defBody st) wDraw) : FnG P w K mg base CX0 (k + 1) f fd ps (liftSp K spDraw) := by
  obtain ⟨oc, od, kV, doc, pm, an, cdv, ct, osl, rfl, lk', hcd⟩ := F.ex
  refine fnG_of lk' hcd S (fun vs H Q E ⟨B, G, cs, R, rel, ⟨a, b, c, m, e, _⟩, _⟩ => by have := rel.len; subst e; simp at this; omega) fun A outer s H vs Q E hr ⟨B, G, cs, R, rel, ⟨a, b, c, m, e, hm, hl, hR⟩, kk⟩ => ?_
  subst e
  have e0 : start0 N.length [Cell.dk a b c, .d (.int m)] = [.dk a b c, .d (.int m), .em, .em, .em] := by rw [hN]; rfl
  have rel0 : Rel K B G [.dk a b c, .d (.int m), .em, .em, .em] (L2.start N vs) H := e0 ▸ rel_start rel
  obtain ⟨o, hσ, rfl, h1, h2, h3, n, xs, ys, e1, e2, e3, hy, hx⟩ := rel0.at (i := 0) rfl
  have rel1 := rel0.swap (i := 0) (c' := .dx a b c xs n ys) rfl hσ rfl ⟨rfl, h1, h2, h3, e1, e2, e3⟩
  refine ⟨_, (body cdv A outer s H E hr).nox, B, G, _, { nx := fun _ => False, rt := fun z δ => ∃ r xs n d2 d3 d4, z = .int r ∧ 0 ≤ r ∧ r < m ∧ (∀ x ∈ xs, (0 : Int) ≤ x) ∧ δ = [.dx a b c xs n ys, .d (.int m), d2, d3, d4] }, rel1, ?_, ?_⟩
  · exact rd_draw hm hl hy hx fun r xs n d2 d3 d4 q0 q1 q2 => ⟨r, xs, n, d2, d3, d4, rfl, q0, q1, q2, rfl⟩
  · refine ⟨fun _ _ _ _ h => h.elim, ?_, fun _ _ _ _ h => h.elim, fun _ _ _ _ h => h.elim⟩
    rintro v σ' H' G' z δ' ⟨r, xs', n', d2, d3, d4, rfl, q0, q1, q2, rfl⟩ sG rel' dn
    obtain ⟨o', hσ', rfl, h1', h2', h3', e1', e2', e3'⟩ := rel'.at (i := 0) rfl
    have rel2 := rel'.swap (i := 0) (c' := .dk a b c) rfl hσ' rfl ⟨rfl, h1', h2', h3', n', xs', ys, e1', e2', e3', hy, q2⟩
    exact kk v H' G' (.int r) _ (hR r q0 q1) sG (rel_end rel rel2 sG ⟨rfl, trivial⟩) dn
end DL
set_option Elab.async false
set_option linter.all false
set_option maxRecDepth 100000
set_option maxHeartbeats 4000000
namespace DL
open PySem PySem.Spec PyProof.Rows L2
variable [Tb]

theorem roomG_caller {k : Nat} (h : Room k callerA) : RoomG k callerA := ⟨h, rfl⟩
noncomputable def scrH (K : PySem.W.Frag) (a : Addr) (vs : List Value) (ns : List Int) : Hp := by
  classical
  exact fun b => if b = a ∧ K.lookup a = none then some (.frz { cls := .type "list", data := .seq vs.toArray } (.lst (ns.map V.int))) else none
section
variable {K : PySem.W.Frag} {a b : Addr} {vs : List Value} {ns : List Int}
theorem scrH_some {u : HO} (h : scrH K a vs ns b = some u) : b = a ∧ K.lookup a = none ∧ u = .frz { cls := .type "list", data := .seq vs.toArray } (.lst (ns.map V.int)) := by
  unfold scrH at h
  split at h
  · rename_i c; exact ⟨c.1, c.2, (Option.some.inj h).symm⟩
  · cases h
theorem scrH_at (h : K.lookup a = none) : scrH K a vs ns a = some (.frz { cls := .type "list", data := .seq vs.toArray } (.lst (ns.map V.int))) := by
  unfold scrH; exact if_pos ⟨rfl, h⟩
end
structure Began (K : PySem.W.Frag) (mg : Str → Option Value) (h : Heap) : Prop where
  code : K.In h
  own : h.Ns mainGlobals mg
  given : ∃ mb, h.Ns builtinsNs mb ∧ ∀ x : Str, x ≠ "__name__" → mb x = bootBuiltins x
  free : h.NoLimit
structure Script (h : Heap) (a : Addr) (vs : List Value) (ns : List Int) : Prop where
  at_a : h.get? a = some { cls := .type "list", data := .seq vs.toArray }
  nums : IntsAre vs ns
  fits : ns.length ≤ sizeLine
def spLaw : DSp := fun cs R => ∃ a ns, cs = [.scr a ns] ∧ ∀ cs', R (.bool true) cs'
noncomputable def noTb (H : Hp) : Hp := by
  classical
  exact fun a => if ∃ ps, H a = some (.tbl ps) then none else H a
theorem noTb_some {H : Hp} {a : Addr} {o : HO} (h : noTb H a = some o) : H a = some o ∧ ∀ ps, o ≠ .tbl ps := by
  unfold noTb at h
  split at h
  · cases h
  · rename_i n
    exact ⟨h, fun ps e => n ⟨ps, by rw [h, e]⟩⟩
theorem noTb_at {H : Hp} {a : Addr} {o : HO} (h : H a = some o) (n : ∀ ps, o ≠ .tbl ps) : noTb H a = some o := by
  unfold noTb
  rw [if_neg fun ⟨ps, e⟩ => n ps (by rw [h] at e; cases e; rfl)]
  exact h
theorem noTb_seq {K : PySem.W.Frag} {H : Hp} {a : Addr} {xs : List V} (h : SqL K H a xs) : SqL K (noTb H) a xs := by
  rcases h with (h | ⟨o, h⟩) | h
  · exact .inl (.inl (noTb_at h fun _ z => (nomatch z)))
  · exact .inl (.inr ⟨o, noTb_at h fun _ z => (nomatch z)⟩)
  · exact .inr h
theorem law_start {K : PySem.W.Frag} {H : Hp} {a : Addr} {ns : List Int} (h : SqL K H a (ns.map V.int)) (hT : LamX.Tabs Tb.T H := by intro p hp; cases hp) : liftSp K spLaw [.ref a] H (fun v _ => v = .bl true) fun _ _ _ => False := by
  refine ⟨fun _ => none, noTb H, [.scr a ns], fun x _ => x = .bool true, ?_, ⟨a, ns, rfl, fun _ => rfl⟩, ?_⟩
  · refine ⟨rfl, fun a o e => (noTb_some e).1, fun a o e => (by cases e), fun a => .inr rfl, fun i c o e1 e2 => ?_, fun i j c c' a e1 e2 m1 m2 => ?_, fun i c a e m => ?_, ⟨hT, ⟨fun a o e => (by cases e), fun a o e => (noTb_some e).2⟩⟩⟩
    · cases i with
      | zero => simp at e1 e2; subst e1 e2; exact ⟨rfl, noTb_seq h⟩
      | succ i => simp at e1
    · cases i with
      | zero => simp at e1; subst e1; cases m1
      | succ i => simp at e1
    · cases i with
      | zero => simp at e; subst e; cases m
      | succ i => simp at e
  · rintro v H' G' x cs' rfl _ _ dn
    exact dn_bool dn
end DL
set_option Elab.async false
set_option linter.all false
set_option maxRecDepth 100000
set_option maxHeartbeats 4000000
namespace DL
open PySem PySem.Spec PyProof.Rows L2
variable [Tb]

section
variable {X : Cx} {x : Str} {pos : Pos} {e : Expr} {es : List Expr}
theorem jpv (i : Nat) (hN : X.N[i]? = some x := by rfl) (hv : Vis X.env.scope x := by first | exact .inl rfl | exact .inr (.inl rfl) | exact .inr (.inr rfl)) (hd : (x == ("__debug__" : Str)) = false := by decide) (hcd : (x == ("__classdict__" : Str)) = false := by decide) : PE X (.Name x pos) (tVar i) := pe_var hN hv hd hcd
theorem jv (i : Nat) (hN : X.N[i]? = some x := by rfl) (hv : Vis X.env.scope x := by first | exact .inl rfl | exact .inr (.inl rfl) | exact .inr (.inr rfl)) (hd : (x == ("__debug__" : Str)) = false := by decide) (hcd : (x == ("__classdict__" : Str)) = false := by decide) : JE X (.Name x pos) (wVar i) := je_var (pe_var hN hv hd hcd)
theorem jgn (i : Nat) (nd : X.N.Nodup) (hN : X.N[i]? = some x := by rfl) (hx : Loc X.env.scope x := by first | exact .inl rfl | exact .inr rfl) (hf : X.fn x = true ∨ X.env.scope.names.lookup x = some .local := by first | exact .inl rfl | exact .inr rfl) : JG X (.Name x pos) [i] (gN i) := jg_name nd hN hx hf
theorem jset (i : Nat) {w : DM} {pos' : Pos} (nd : X.N.Nodup) (he : JM X e w) (hi : X.N[i]? = some x := by rfl) (hx : Loc X.env.scope x := by first | exact .inl rfl | exact .inr rfl) (hs : swapsWith e (some (.Name x pos')) pos.line X.env = pure false := by rfl) (hf : X.fn x = true ∨ X.env.scope.names.lookup x = some .local := by first | exact .inl rfl | exact .inr rfl) :
    JS X (.Assign [.Name x pos'] e pos) (wSet i w) := js_set nd hi hx he hs hf
theorem jpar {i j : Nat} {x y : Str} {a b : Expr} {w : DMs} {px py pt : Pos} {kt k2 pt2} (hc : X.calm = true) (hN : X.N.Nodup) (hi : X.N[i]? = some x) (hj : X.N[j]? = some y) (hij : i ≠ j) (ha : JMs X [a, b] w) (hx : X.env.scope.names.lookup x = some .local := by rfl) (hy : X.env.scope.names.lookup y = some .local := by rfl) 
    (hw : swappedStores [.Tuple [.Name x px, .Name y py] kt pt] (.Tuple [a, b] k2 pt2) X.env = pure (some [x, y]) := by rfl) (hs : swapsWithSole [.Tuple [.Name x px, .Name y py] kt pt] (.Tuple [a, b] k2 pt2) pos.line X.env = pure false := by rfl) :
    JS X (.Assign [.Tuple [.Name x px, .Name y py] kt pt] (.Tuple [a, b] k2 pt2) pos) (wPar2 i j w) := js_par2 hc hN hi hj hij hx hy ha hw hs
def pIAdd : P2 := fun x y R => match x, y with
  | .int i, .int j => R (.int (i + j))
  | .str a, .str b => a.length + b.length ≤ 1000000 ∧ R (.str (a ++ b))
  | _, _ => False
def pISub : P2 := ints2 fun i j R => R (.int (i - j))
def pIMul : P2 := ints2 fun i j R => CMul i j ∧ R (.int (i * j))
def pIDiv : P2 := ints2 fun i j R => CDiv i j ∧ R (.int (i / j))
def pIMod : P2 := ints2 fun i j R => 0 < j ∧ R (.int (i % j))
omit [Tb] in
@[simp] theorem pIAdd_ii (i j : Int) (R : PyData → Prop) : pIAdd (.int i) (.int j) R = R (.int (i + j)) := rfl
omit [Tb] in
@[simp] theorem pIAdd_ss (a b : Str) (R : PyData → Prop) : pIAdd (.str a) (.str b) R = (a.length + b.length ≤ 1000000 ∧ R (.str (a ++ b))) := rfl
omit [Tb] in
@[simp] theorem pISub_ii (i j : Int) (R : PyData → Prop) : pISub (.int i) (.int j) R = R (.int (i - j)) := rfl
omit [Tb] in
@[simp] theorem pIMul_ii (i j : Int) (R : PyData → Prop) : pIMul (.int i) (.int j) R = (CMul i j ∧ R (.int (i * j))) := rfl
omit [Tb] in
@[simp] theorem pIDiv_ii (i j : Int) (R : PyData → Prop) : pIDiv (.int i) (.int j) R = (CDiv i j ∧ R (.int (i / j))) := rfl
omit [Tb] in
@[simp] theorem pIMod_ii (i j : Int) (R : PyData → Prop) : pIMod (.int i) (.int j) R = (0 < j ∧ R (.int (i % j))) := rfl
end
end DL
set_option Elab.async false
set_option linter.all false
set_option maxRecDepth 100000
set_option maxHeartbeats 4000000
namespace DL
open PySem PySem.Spec PyProof.Rows L2
variable [Tb]

variable {g : DTG} {t : DT} {e : DE} {vs : List Nat} {xs : List PyData} {δ : DS}
theorem com_map {α : Type} {R : List PyData → DS → Prop} {u : Stop R} (as : List α) (d : α → PyData) (hx : xs = as.map d) (f : α → Option PyData)
    (hs : ∀ a ∈ as, ∀ (acc : List PyData) (K : List PyData → DS → Prop), K (acc ++ (f a).toList) δ → g (d a) δ fun δ1 => t δ1 fun b δ2 => if b = true then e δ2 fun o δ3 => lk o δ3 fun y δ4 => K (acc ++ [y]) (wipeD δ4 vs) else K acc (wipeD δ2 vs)) (k : R (as.filterMap f) δ) : comC g t e vs xs [] δ R u := by
  subst hx
  refine com_inv (fun ys acc δ' => δ' = δ ∧ ∃ bs : List α, ys = bs.map d ∧ (∀ x ∈ bs, x ∈ as) ∧ acc ++ bs.filterMap f = as.filterMap f) ⟨rfl, as, rfl, fun _ h => h, rfl⟩ ?_ ?_
  · rintro acc δ' ⟨rfl, bs, hb, _, h⟩
    have : bs = [] := by cases bs with
      | nil => rfl
      | cons => cases hb
    subst this
    have h' : acc = as.filterMap f := by simpa using h
    rw [h']; exact k
  · rintro x ys acc δ' ⟨rfl, bs, hb, hm, h⟩ K hK
    cases bs with
    | nil => cases hb
    | cons a bs =>
      simp only [List.map_cons, List.cons.injEq] at hb
      obtain ⟨rfl, rfl⟩ := hb
      refine hs a (hm a (List.mem_cons_self ..)) acc K (hK _ _ ⟨rfl, bs, rfl, fun y hy => hm y (List.mem_cons_of_mem _ hy), ?_⟩)
      rw [← h, List.filterMap_cons]
      cases f a <;> simp
theorem cutD_take {α : Type} (xs : List α) (n : Nat) : cutD xs none (some (n : Int)) = xs.take n := by
  unfold cutD
  rw [HT.sIx_none, HT.sIx_nat]
  simp only [List.drop_zero, Nat.sub_zero]
  by_cases h : n ≤ xs.length
  · rw [Nat.min_eq_left h]
  · rw [Nat.min_eq_right (by omega), List.take_of_length_le (by omega), List.take_of_length_le (by omega)]
theorem for_map {α : Type} {b : DTS} {E : DEnds} {u : Stop E} (as : List α) (d : α → PyData) (hx : xs = as.map d) (P : List α → DS → Prop) (Q : DS → Prop) (Z : PyData → DS → Prop) (h : P as δ) (h0 : ∀ δ, P [] δ → E.nx δ) (hq : ∀ δ, Q δ → E.nx δ) (hz : ∀ x δ, Z x δ → E.rt x δ)
    (hs : ∀ a bs δ, P (a :: bs) δ → ∀ (K B : DS → Prop) (T : PyData → DS → Prop), (∀ δ', P bs δ' → K δ') → (∀ δ', Q δ' → B δ') → (∀ x δ', Z x δ' → T x δ') → g (d a) δ fun δ1 => b { nx := K, rt := T, bk := B, ct := K } δ1) : forC g b xs δ E u := by
  subst hx
  refine for_inv (fun ys δ' => ∃ bs : List α, ys = bs.map d ∧ P bs δ') Q Z ⟨as, rfl, h⟩ ?_ hq hz ?_
  · rintro δ ⟨bs, hb, p⟩
    cases bs with
    | nil => exact h0 δ p
    | cons => cases hb
  · rintro x ys δ ⟨bs, hb, p⟩ K B T hK hB hT
    cases bs with
    | nil => cases hb
    | cons a bs =>
      simp only [List.map_cons, List.cons.injEq] at hb
      obtain ⟨rfl, rfl⟩ := hb
      exact hs a bs δ p K B T (fun δ' p' => hK δ' ⟨bs, rfl, p'⟩) hB hT
theorem log_lt {m : Int} {k : Nat} (h0 : 0 < m) (h1 : m < 2 ^ k) : m.natAbs.log2 < k := by
  have : m.natAbs < 2 ^ k := by
    have e : (m.natAbs : Int) = m := Int.natAbs_of_nonneg (by omega)
    have h2 : ((m.natAbs : Nat) : Int) < ((2 ^ k : Nat) : Int) := by rw [e]; simpa using h1
    exact Int.ofNat_lt.mp h2
  exact (Nat.log2_lt (by omega)).mpr this
theorem ask_of {sp : DSp} {cs : List Cell} {K : PyData → List Cell → Prop} {u : Stop K} (h : sp cs K) : ask sp cs K u := h
theorem ask_draw {a b c : Addr} {m : Int} {K : PyData → List Cell → Prop} {u : Stop K} (h0 : 0 < m) (h1 : m < 2 ^ 64) (k : ∀ r, 0 ≤ r → r < m → K (.int r) [.dk a b c, .d (.int m)]) : ask spDraw [.dk a b c, .d (.int m)] K u :=
  ⟨a, b, c, m, rfl, h0, Nat.lt_trans (log_lt h0 h1) (by decide), k⟩
theorem ask_deck {a : Addr} {ns : List Int} {K : Cell → List Cell → Prop} {u : Stop K} (k : ∀ p q r, K (.dk p q r) [.scr a ns]) : askM spDeck [.scr a ns] K u := ⟨a, ns, rfl, k⟩
end DL
set_option Elab.async false
set_option linter.all false
set_option maxRecDepth 100000
set_option maxHeartbeats 4000000
namespace DL
open PySem PySem.Spec PyProof.Rows L2
variable [Tb]

def Sml (B L : Nat) : Nat → PyData → Prop
  | _, .none => True
  | _, .bool _ => True
  | _, .int i => i.natAbs.log2 < B
  | n + 1, .list xs => xs.length ≤ L ∧ ∀ x ∈ xs, Sml B L n x
  | n + 1, .tuple xs => xs.length ≤ L ∧ ∀ x ∈ xs, Sml B L n x
  | _, _ => False
theorem shownAll_map : ∀ xs : List PyData, PyData.shownAll xs = xs.map PyData.shown
  | [] => by simp [PyData.shownAll]
  | x :: xs => by simp [PyData.shownAll, shownAll_map xs]
theorem log_abs {i : Int} {B : Nat} (hB : 0 < B) (h0 : -(2 ^ B) < i) (h1 : i < 2 ^ B) : i.natAbs.log2 < B := by
  by_cases z : i = 0
  · subst z; simpa using hB
  · have e : ((2 ^ B : Nat) : Int) = 2 ^ B := by simp
    have : i.natAbs < 2 ^ B := by omega
    exact (Nat.log2_lt (by omega)).mpr this
omit [Tb] in
@[simp] theorem sml_int (B L n : Nat) (i : Int) : Sml B L n (.int i) = (i.natAbs.log2 < B) := by cases n <;> rfl
omit [Tb] in
@[simp] theorem sml_none (B L n : Nat) : Sml B L n .none = True := by cases n <;> rfl
omit [Tb] in
@[simp] theorem sml_bool (B L n : Nat) (b : Bool) : Sml B L n (.bool b) = True := by cases n <;> rfl
omit [Tb] in
@[simp] theorem sml_list (B L n : Nat) (xs : List PyData) : Sml B L (n + 1) (.list xs) = (xs.length ≤ L ∧ ∀ x ∈ xs, Sml B L n x) := rfl
omit [Tb] in
@[simp] theorem sml_tuple (B L n : Nat) (xs : List PyData) : Sml B L (n + 1) (.tuple xs) = (xs.length ≤ L ∧ ∀ x ∈ xs, Sml B L n x) := rfl
end DL
set_option Elab.async false
set_option linter.all false
set_option maxRecDepth 100000
set_option maxHeartbeats 4000000
namespace DL
open PySem PySem.Spec PyProof.Rows L2
variable [Tb]

def wPar3 (i j k : Nat) (w : DMs) : DTS := fun E δ => w δ fun cs δ1 => ∃ c d e, cs = [c, d, e] ∧ E.nx (((δ1.set i c).set j d).set k e)
omit [Tb] in
@[simp ↓] theorem wPar3_ap (i j k : Nat) (w : DMs) (E : DEnds) (δ : DS) : wPar3 i j k w E δ = (w δ fun cs δ1 => match cs with
  | [c, d, e] => E.nx (((δ1.set i c).set j d).set k e)
  | _ => False) := by
  unfold wPar3
  congr 1; funext cs δ1
  match cs with
  | [] => simp
  | [c] => simp
  | [c, d] => simp
  | [c, d, e] => exact propext ⟨fun ⟨c', d', e', h0, h⟩ => by cases h0; exact h, fun h => ⟨c, d, e, rfl, h⟩⟩
  | c :: d :: e :: f :: r => simp
def wAsgG (w : DE) (g : DTG) : DTS := fun E δ => w δ fun o δ1 => lk o δ1 fun x δ2 => g x δ2 E.nx
omit [Tb] in
@[simp ↓] theorem wAsgG_ap (w : DE) (g : DTG) (E : DEnds) (δ : DS) : wAsgG w g E δ = (w δ fun o δ1 => lk o δ1 fun x δ2 => g x δ2 E.nx) := rfl
section
variable {X : Cx} {pos : Pos} {e : Expr}
theorem js_asgG {tg : Expr} {w : DE} {ts : List Nat} {g : DTG} (he : JE X e w) (hg : JG X tg ts g) (hs : swapsWithSole [tg] e pos.line X.env = pure false := by rfl) (hw : swappedStores [tg] e X.env = pure none := by rfl) (h1 : (assignEach [tg] X.env).map (·.2) = [assign tg X.env] := by rfl) : JS X (.Assign [tg] e pos) (wAsgG w g) :=
  ps_le (ps_asg he hg hs hw h1) fun pins s σ H D I ⟨B, G, δ, E, rel, hw, k⟩ => ⟨B, G, δ, _, rel, hw, fun v H1 G1 o δ1 r1 s1 rel1 ok1 => by
    obtain ⟨G2, δ2, x, q, s2, rel2, dn⟩ := lk_ok rel1 ok1 r1
    exact ⟨B, G2, δ2, x, _, rel2, dn, q, fun σ' H' G' δ' r' s' rel' _ => k.nx _ _ _ _ r' (s1.trans (s2.trans s')) rel'⟩⟩
end
end DL
set_option Elab.async false
set_option linter.all false
set_option maxRecDepth 100000
set_option maxHeartbeats 4000000
namespace DL
open PySem PySem.Spec PyProof.Rows L2
variable [Tb]

theorem while_inv {c : DT} {b : DTS} {δ : DS} {E : DEnds} {u : Stop E} (W : Nat → DS → Prop) (D : DS → Prop) (Z : PyData → DS → Prop) (m0 : Nat) (h : W m0 δ) (hd : ∀ δ, D δ → E.nx δ) (hz : ∀ x δ, Z x δ → E.rt x δ)
    (hs : ∀ m δ, W m δ → ∀ (K N : DS → Prop) (T : PyData → DS → Prop), (∀ m' δ', m' < m → W m' δ' → K δ') → (∀ δ', D δ' → N δ') → (∀ x δ', Z x δ' → T x δ') → c δ fun k δ1 => if k = true then b { nx := K, rt := T, bk := N, ct := K } δ1 else N δ1) : whileC c b δ E u :=
  ⟨W, ⟨m0, h⟩, fun m δ w => hs m δ w _ _ _ (fun m' δ' hm w' => ⟨m', hm, w'⟩) hd hz⟩
theorem while_plain {c : DT} {b : DTS} {δ : DS} {E : DEnds} {u : Stop E} (W : Nat → DS → Prop) (D : DS → Prop) (m0 : Nat) (h : W m0 δ) (hd : ∀ δ, D δ → E.nx δ)
    (hs : ∀ m δ, W m δ → ∀ (K N : DS → Prop) (T : PyData → DS → Prop), (∀ m' δ', m' < m → W m' δ' → K δ') → (∀ δ', D δ' → N δ') → c δ fun k δ1 => if k = true then b { nx := K, rt := T, bk := N, ct := K } δ1 else N δ1) : whileC c b δ E u :=
  while_inv W D (fun _ _ => False) m0 h hd (fun _ _ h => h.elim) fun m δ w K N T hK hN _ => hs m δ w K N T hK hN
theorem numbered_zip {α : Type} (d : α → PyData) : ∀ (as : List α) (n : Nat), numbered n (as.map d) = (as.zipIdx n).map fun p => .tuple [.int (p.2 : Nat), d p.1]
  | [], n => by simp [numbered]
  | a :: as, n => by simp [numbered, numbered_zip d as (n + 1)]
end DL
set_option Elab.async false
set_option linter.all false
set_option maxRecDepth 100000
set_option maxHeartbeats 4000000
namespace DL
open PySem PySem.Spec PyProof.Rows L2
variable [Tb]
section
variable {l : Addr} {its : Array Value} {n : Nat} {dd : Option Addr} {sl : Array (Option Value)} {x : Int} {u : Tok}
theorem fits63 (lo : -(2 ^ 63) ≤ x) (hi : x < 2 ^ 63) : (decide (x < -(2 ^ 63)) || decide (x ≥ 2 ^ 63)) = false := by simp; omega
theorem mul_same (lo : -(2 ^ 63) ≤ x) (hi : x < 2 ^ 63) (same : (its.isEmpty || x == 1) = true) :
    Meets (Builtin.«tuple.__mul__» ⟨[.ref l, .int x u], []⟩) (fun _ R s => s.heap.get? l = some { cls := .type "tuple", dict := dd, data := .seq its n, slots := sl } ∧ R (.ok (.ret (Value.ref l))) s) := by
  refine .of_wp fun prog w A R => ?_
  rintro ⟨hp, gs, dr, tk, os⟩ ⟨at_l, h⟩
  have fit := fits63 lo hi
  have ix := AutoSeq1.idx_int
  wp_walk using wpAny_loadPart' at_l
  all_goals simp only [fit, same, Bool.false_eq_true, ↓reduceIte]
  wp_walk using wpAny_loadPart' at_l
  all_goals (try simp only [fit, same, Bool.false_eq_true, ↓reduceIte])
  all_goals (first | (wp_walk using wpAny_loadPart' at_l; exact ⟨_, rfl, h⟩) | exact ⟨_, rfl, h⟩)
theorem mul_none (lo : -(2 ^ 63) ≤ x) (le : x ≤ 0) (some' : its.isEmpty = false) :
    Meets (Builtin.«tuple.__mul__» ⟨[.ref l, .int x u], []⟩) (fun _ R s => s.heap.get? l = some { cls := .type "tuple", dict := dd, data := .seq its n, slots := sl } ∧
      R (.ok (.ret (Value.ref s.heap.objs.size))) { s with heap := s.heap.push { cls := Value.type "tuple", data := Data.seq #[] }, toks := s.toks }) := by
  refine .of_wp fun prog w A R => ?_
  rintro ⟨hp, gs, dr, tk, os⟩ ⟨at_l, h⟩
  have fit := fits63 lo (Int.lt_of_le_of_lt le (by decide))
  have once : (x == 1) = false := by simp; omega
  have ix := AutoSeq1.idx_int
  wp_walk using wpAny_loadPart' at_l
  all_goals simp only [fit, once, some', Bool.or_false, Bool.false_eq_true, ↓reduceIte]
  wp_walk using wpAny_loadPart' at_l
  all_goals (try simp only [once, some', decide_eq_true le, Bool.or_false, Bool.false_eq_true, ↓reduceIte])
  all_goals (first | (wp_walk using wpAny_loadPart' at_l; exact ⟨_, rfl, h⟩) | exact ⟨_, rfl, h⟩)
end
omit [Tb] in
theorem mul_asks {X : Cx} {s : Shared} {l : Addr} {its : Array Value} {n : Nat} {dd : Option Addr} {sl : Array (Option Value)} {k : Int} {t : Tok} {G E : Value → Shared → Prop}
    (at_l : s.heap.get? l = some { cls := .type "tuple", dict := dd, data := .seq its n, slots := sl }) {W : Shared → Value} {f : Shared → Shared}
    (own : Meets (Builtin.«tuple.__mul__» ⟨[.ref l, .int k t], []⟩) (fun _ R s => s.heap.get? l = some { cls := .type "tuple", dict := dd, data := .seq its n, slots := sl } ∧ R (.ok (.ret (W s))) (f s))) (h : G (W s) (f s)) :
    wpAny (model X.prog X.w) X.A (binaryOp .Mult (.ref l) (.int k t)) G E s := by
  have ty : s.TypeIs (.ref l) "tuple" := ⟨_, at_l, rfl⟩
  have back := int_rmul_tuple k t l its n dd sl
  exact wpAny_binaryOp_repeat_ref (by decide) ty (typeIs_int · k t) noFill_tuple_mul F.fills_int_mul F.slot_int_rmul repeat_tuple F.slot_int_index.lookup
    (call_meets F.slot_int_rmul (typeIs_int s k t) F.entry_int_rmul (F.args_int_rmul_2 _ _) back ⟨at_l, rfl, ty, call_meets F.slot_tuple_mul ty F.entry_tuple_mul (F.args_tuple_mul_2 _ _) own ⟨at_l, h⟩⟩)
def rRepM (K : PySem.W.Frag) : R2 := fun x y H Q => ∃ l k xs, x = .ref l ∧ y = .int k ∧ SqT K H l xs ∧ xs ≠ [] ∧ 2 ≤ k ∧ k ≤ 100000 ∧ k.toNat * xs.length ≤ 1000000 ∧ NewT H Q (List.replicate k.toNat xs).flatten
theorem op_repM {X : Cx} : OpR X (binaryOp .Mult) (rRepM X.K) := by
  rintro pins s σ H _ _ _ _ Q I rx ry ⟨l, k, xs, rfl, rfl, isT, some', two, many, all, q⟩
  cases rx
  obtain ⟨tok, rfl⟩ := ry
  obtain ⟨its, vals, ⟨⟨_, dd, _, sl⟩, at_l, rfl, n, rfl⟩, _⟩ := I.tuple isT
  have len := vals.length
  have all' : (its.toArray.size : Int) * k ≤ 1000000 := by
    have h := Int.ofNat_le.mpr all
    rw [Int.natCast_mul, Int.toNat_of_nonneg (by omega)] at h
    rw [List.size_toArray, ← len, Int.mul_comm]
    exact h
  have put : (List.replicate k.toNat its).flatten.length ≤ sizeLine := by rw [PyProof.Rows.lm_len_rep_flat, ← len]; exact Nat.le_trans all (by decide +kernel)
  have there : its.toArray.isEmpty = false := by
    cases vals with
    | nil => exact absurd rfl some'
    | cons => rfl
  have mul := tuple_mulW l its.toArray n dd sl k tok (fits63 (by omega) (by omega)) (by simp [there]; omega) (by simp [there]; omega) (by omega) (decide_eq_false (by rw [sizeLine_eq]; omega)) (by rw [size_rep, List.size_toArray]; exact put)
  rw [size_rep] at mul
  refine mul_asks at_l mul (q.at (k := s.toks) I ?_ (vals.rep k.toNat))
  rw [PyProof.Rows.lm_len_rep_flat]
  exact Nat.le_trans all (by decide +kernel)
def rRepA (K : PySem.W.Frag) : R2 := fun x y H Q => ∃ l k xs, x = .ref l ∧ y = .int k ∧ SqT K H l xs ∧ -1000 ≤ k ∧ k ≤ 1000 ∧ xs.length ≤ 1000 ∧ (xs = [] ∨ k = 1 → Q (.ref l) H) ∧ (¬ (xs = [] ∨ k = 1) → NewT H Q (List.replicate k.toNat xs).flatten)
section
variable {X : Cx}
theorem op_repA : OpR X (binaryOp .Mult) (rRepA X.K) := by
  rintro pins s σ H _ _ _ _ Q I rx ry ⟨l, k, xs, rfl, rfl, isT, lo, hi, short, once, else'⟩
  by_cases c : 2 ≤ k ∧ xs ≠ []
  · exact op_repM pins s σ H _ _ _ _ Q I rx ry ⟨l, k, xs, rfl, rfl, isT, c.2, c.1, by omega, Nat.le_trans (Nat.mul_le_mul (show k.toNat ≤ 1000 by omega) short) (by decide), else' (fun z => z.elim c.2 (by omega))⟩
  cases rx
  obtain ⟨tok, rfl⟩ := ry
  obtain ⟨its, vals, ⟨⟨_, dd, _, sl⟩, at_l, rfl, n, rfl⟩, _⟩ := I.tuple isT
  by_cases c' : xs = [] ∨ k = 1
  · refine mul_asks at_l (mul_same (by omega) (by omega) ?_) ⟨.ref l, _, I, rfl, once c'⟩
    rcases c' with rfl | rfl
    · cases vals; rfl
    · exact Bool.or_true _
  · have le : k ≤ 0 := by
      have : ¬ k = 1 := fun e => c' (.inr e)
      have : ¬ 2 ≤ k := fun e => c ⟨e, fun z => c' (.inl z)⟩
      omega
    have q := else' c'
    rw [Int.toNat_of_nonpos le] at q
    have q : NewT H Q ([] : List V) := q
    refine mul_asks at_l (mul_none (by omega) le ?_) (q.at (k := s.toks) I (by decide +kernel) .nil)
    cases vals with
    | nil => exact absurd (.inl rfl) c'
    | cons => rfl
def pMulT : P2 := fun x y R => match x, y with
  | .int i, .int j => (CMul i j ∨ CMulW i j) ∧ R (.int (i * j))
  | .list xs, .int k => 0 ≤ k ∧ xs.length * k.toNat ≤ 1000000 ∧ k < 1000000 ∧ R (.list (List.replicate k.toNat xs).flatten)
  | .tuple xs, .int k => (-1000 ≤ k ∧ k ≤ 1000 ∧ xs.length ≤ 1000) ∧ R (.tuple (List.replicate k.toNat xs).flatten)
  | _, _ => False
theorem d_mulT : OpD X (binaryOp .Mult) pMulT := by
  intro pins s σ H x y v u Q I rx ry ⟨B, G, δ, σ', dx, dy, R, rel, bx, by', q, k⟩
  cases dx <;> cases dy <;> first | exact False.elim q | skip
  · exact d_mul pins s σ H x y v u Q I rx ry ⟨B, G, δ, σ', _, _, R, rel, bx, by', q, k⟩
  · exact d_mul pins s σ H x y v u Q I rx ry ⟨B, G, δ, σ', _, _, R, rel, bx, by', q, k⟩
  · rename_i ds i
    obtain ⟨a, vs, rfl, ha, ta⟩ := bor_tupS bx
    obtain ⟨⟨q0, q1, q2⟩, q3⟩ := q
    refine op_repA pins s σ H _ _ v u Q I rx ry ⟨a, i, vs, rfl, bor_int by', sqT_mono rel.sg ha.sq, q0, q1, by rw [ta.len]; exact q2, fun hc => ?_, fun hc p o hd np => ?_⟩
    · refine k _ H G _ q3 (Same.refl _) rel ?_
      rcases hc with rfl | rfl
      · have : ds = [] := by have := ta.len; simp at this; exact List.eq_nil_of_length_eq_zero this.symm
        subst this
        rw [List.flatten_replicate_nil] <;> exact Dn.tup ha ta
      · have e : (List.replicate (1 : Int).toNat ds).flatten = ds := by simp
        rw [e]; exact Dn.tup ha ta
    · obtain ⟨rel3, s3, at3⟩ := rel.laidT np hd
      exact k _ _ _ _ q3 s3 rel3 (Dn.tup at3 ((ta.rep _).mono s3))
omit [Tb] in
@[simp ↓] theorem pMulT_ii (i : Int) (j : Int) (R : PyData → Prop) : pMulT (.int i) (.int j) R = ((CMul i j ∨ CMulW i j) ∧ R (.int (i * j))) := rfl
omit [Tb] in
@[simp ↓] theorem pMulT_li (xs : List PyData) (k : Int) (R : PyData → Prop) : pMulT (.list xs) (.int k) R = (0 ≤ k ∧ xs.length * k.toNat ≤ 1000000 ∧ k < 1000000 ∧ R (.list (List.replicate k.toNat xs).flatten)) := rfl
omit [Tb] in
@[simp ↓] theorem pMulT_ti (xs : List PyData) (k : Int) (R : PyData → Prop) : pMulT (.tuple xs) (.int k) R = ((-1000 ≤ k ∧ k ≤ 1000 ∧ xs.length ≤ 1000) ∧ R (.tuple (List.replicate k.toNat xs).flatten)) := rfl
end
end DL
set_option Elab.async false
set_option linter.all false
set_option maxRecDepth 100000
set_option maxHeartbeats 4000000
namespace DL
open PySem PySem.Spec PyProof.Rows L2
variable [Tb]
mutual
def RdN (h : Heap) (v : Value) : PyData → Prop
  | .dict kvs => kvs = [] ∧ ∃ a o es n, v = .ref a ∧ a ≠ sysModules ∧ h.get? a = some o ∧ o.cls = .type "dict" ∧ o.data = .dict es n ∧ es.toList = []
  | .list xs => ∃ a o vs n, v = .ref a ∧ h.get? a = some o ∧ o.cls = .type "list" ∧ o.data = .seq vs n ∧ RdNs h vs.toList xs
  | .tuple xs => ∃ a o vs n, v = .ref a ∧ h.get? a = some o ∧ o.cls = .type "tuple" ∧ o.data = .seq vs n ∧ RdNs h vs.toList xs
  | d => Reads h v d []
def RdNs (h : Heap) (vs : List Value) : List PyData → Prop
  | [] => vs = []
  | d :: ds => ∃ v us, vs = v :: us ∧ RdN h v d ∧ RdNs h us ds
end
mutual
theorem RdN.reads {h : Heap} : ∀ (d : PyData) {v : Value}, RdN h v d → ∃ as, Reads h v d as
  | .none, _, r => ⟨_, r⟩
  | .bool _, _, r => ⟨_, r⟩
  | .int _, _, r => ⟨_, r⟩
  | .str _, _, r => ⟨_, r⟩
  | .list xs, _, ⟨_, _, _, _, e, h1, h2, h3, h4⟩ => (RdNs.reads xs h4).elim fun _ q => e ▸ ⟨_, Reads.list h1 h2 h3 q⟩
  | .tuple xs, _, ⟨_, _, _, _, e, h1, h2, h3, h4⟩ => (RdNs.reads xs h4).elim fun _ q => e ▸ ⟨_, Reads.tuple h1 h2 h3 q⟩
  | .dict _, _, ⟨z, _, _, _, _, e, _, h1, h2, h3, h4⟩ => e ▸ z ▸ ⟨_, Reads.dict (kvs := []) (as := []) (bs := []) h1 h2 h3 (by rw [h4]; exact ReadsAll.nil) (by rw [h4]; exact ReadsAll.nil)⟩
theorem RdNs.reads {h : Heap} : ∀ (ds : List PyData) {vs : List Value}, RdNs h vs ds → ∃ as, ReadsAll h vs ds as
  | [], _, e => e ▸ ⟨_, ReadsAll.nil⟩
  | d :: ds, _, ⟨_, _, e, a, b⟩ => (RdN.reads d a).elim fun _ p => (RdNs.reads ds b).elim fun _ q => e ▸ ⟨_, ReadsAll.cons p q⟩
end
section
variable {prog : Program} {w : World} {h₀ : Heap}
def Tells (prog : Program) (w : World) (h₀ : Heap) (v : Value) (d : PyData) : Prop :=
  (∃ as, Reads h₀ v d as) ∧ (d.showable = true → d.shown.length ≤ sizeLine → ∃ bs, ReadAtMost h₀ d.depth bs ∧ ReprK prog w bs h₀ d.depth v d.shown)
def TellsAll (prog : Program) (w : World) (h₀ : Heap) (vs : List Value) (ds : List PyData) : Prop :=
  (∃ as, ReadsAll h₀ vs ds as) ∧ (PyData.showableAll ds = true → (∀ t ∈ PyData.shownAll ds, t.length ≤ sizeLine) → ∃ bs, ReadAtMost h₀ (PyData.depthAll ds) bs ∧ ReprAllK prog w bs h₀ (PyData.depthAll ds) vs (PyData.shownAll ds))
def Shows (prog : Program) (w : World) (h₀ : Heap) (v : Value) (d : PyData) : Prop :=
  d.showable = true → d.shown.length ≤ sizeLine → ∃ a T idr, v = .ref a ∧ ShowsBy prog w h₀ a d T idr
theorem TellsAll.none : TellsAll prog w h₀ [] [] := ⟨⟨_, .nil⟩, fun _ _ => ⟨[], nofun, .nil⟩⟩
theorem TellsAll.more {v : Value} {d : PyData} {vs : List Value} {ds : List PyData} (a : Tells prog w h₀ v d) (b : TellsAll prog w h₀ vs ds) : TellsAll prog w h₀ (v :: vs) (d :: ds) := by
  obtain ⟨⟨as, ra⟩, ka⟩ := a
  obtain ⟨⟨bs, rb⟩, kb⟩ := b
  refine ⟨⟨_, .cons ra rb⟩, fun sh short => ?_⟩
  rw [PyData.showableAll, Bool.and_eq_true] at sh
  rw [PyData.shownAll] at short ⊢
  obtain ⟨cs, below_c, one⟩ := ka sh.1 (short _ List.mem_cons_self)
  obtain ⟨ds', below_d, rest⟩ := kb sh.2 fun t m => short t (List.mem_cons_of_mem _ m)
  rw [PyData.depthAll]
  exact ⟨cs ++ ds', (below_c.mono (Nat.le_max_left _ _)).append (below_d.mono (Nat.le_max_right _ _)), .cons ((one.more fun _ => List.mem_append_left _).level_le (Nat.le_max_left _ _)) (rest.more_le (fun _ => List.mem_append_right _) (Nat.le_max_right _ _))⟩
theorem tells_tuple {a : Addr} {o : Obj} {vs : Array Value} {n : Nat} {xs : List PyData} (at_a : h₀.get? a = some o) (cl : o.cls = .type "tuple") (dt : o.data = .seq vs n) (all : TellsAll prog w h₀ vs.toList xs) :
    Tells prog w h₀ (.ref a) (.tuple xs) ∧ Shows prog w h₀ (.ref a) (.tuple xs) := by
  obtain ⟨⟨as, rs⟩, told⟩ := all
  have r : Reads h₀ (.ref a) (.tuple xs) as := .tuple at_a cl dt rs
  have go : (PyData.tuple xs).showable = true → (PyData.tuple xs).shown.length ≤ sizeLine → ∃ bs, ReadAtMost h₀ (PyData.depthAll xs) bs ∧ a ∉ bs ∧ ReprAllK prog w bs h₀ (PyData.depthAll xs) vs.toList (PyData.shownAll xs) := fun sh short => by
    rw [PyData.showable] at sh
    rw [PyData.shown] at short
    obtain ⟨bs, below, k⟩ := told sh fun t m => Nat.le_trans (tupleText_mem_le m) short
    exact ⟨bs, below, not_mem_of_deeper r (by rw [PyData.depth]; omega) below, k⟩
  refine ⟨⟨⟨_, r⟩, fun sh short => ?_⟩, fun sh short => ?_⟩ <;> obtain ⟨bs, below, out, k⟩ := go sh short
  · rw [PyData.depth, PyData.shown]
    exact ⟨a :: bs, ReadAtMost.cons r (by rw [PyData.depth]; omega) below, ReprK.tuple at_a cl dt out k⟩
  · refine ⟨a, "tuple", "tuple.__repr__", rfl, { slotRepr := F.slot_tuple_repr, slotStr := F.slot_tuple_str, slotFmt := F.slot_tuple_format, typeIs := fun s kept => ⟨o, kept _ _ at_a, cl⟩, call := ?_ }⟩
    intro A E s Q calm room kept done
    rw [PyData.depth] at room
    rw [PyData.shown] at done short
    exact call_tuple_reprK at_a cl dt out k calm (fun b _ => Clear.nil b) room kept done short
theorem tells_list {a : Addr} {o : Obj} {vs : Array Value} {n : Nat} {xs : List PyData} (at_a : h₀.get? a = some o) (cl : o.cls = .type "list") (dt : o.data = .seq vs n) (all : TellsAll prog w h₀ vs.toList xs) :
    Tells prog w h₀ (.ref a) (.list xs) ∧ Shows prog w h₀ (.ref a) (.list xs) := by
  obtain ⟨⟨as, rs⟩, told⟩ := all
  have r : Reads h₀ (.ref a) (.list xs) (a :: as) := .list at_a cl dt rs
  have go : (PyData.list xs).showable = true → (PyData.list xs).shown.length ≤ sizeLine → ∃ bs, ReadAtMost h₀ (PyData.depthAll xs) bs ∧ a ∉ bs ∧ ReprAllK prog w bs h₀ (PyData.depthAll xs) vs.toList (PyData.shownAll xs) := fun sh short => by
    rw [PyData.showable] at sh
    rw [PyData.shown] at short
    obtain ⟨bs, below, k⟩ := told sh fun t m => Nat.le_trans (listText_mem_le m) short
    exact ⟨bs, below, not_mem_of_deeper r (by rw [PyData.depth]; omega) below, k⟩
  have slots (call) : ShowsBy prog w h₀ a (.list xs) "list" "list.__repr__" := { slotRepr := F.slot_list_repr.toG, slotStr := F.slot_list_str, slotFmt := F.slot_list_format, typeIs := fun s kept => ⟨o, kept _ _ at_a, cl⟩, call := call }
  rcases vs with ⟨_ | ⟨v, us⟩⟩
  · cases rs
    refine ⟨⟨⟨_, r⟩, fun _ _ => ⟨[a], ReadAtMost.cons r (Nat.le_refl _) nofun, ?_⟩⟩, fun _ _ => ⟨a, _, _, rfl, slots ?_⟩⟩
    · rw [PyData.shown, PyData.shownAll, listText_nil]
      exact ReprK.listEmpty at_a cl dt
    · intro A E s Q calm room kept done
      rw [PyData.shown, PyData.shownAll, listText_nil] at done
      exact call_list_repr_empty ⟨o, kept _ _ at_a, cl⟩ (kept _ _ at_a) dt (done s.heap _ _ fun _ _ e => e)
  · have each : ∀ {bs : List Addr}, ReprAllK prog w bs h₀ (PyData.depthAll xs) (v :: us) (PyData.shownAll xs) → (PyData.shownAll xs).length = (v :: us).toArray.size ∧ ∀ (i : Nat) (y : Value), (v :: us).toArray[i]? = some y → ∃ t, (PyData.shownAll xs)[i]? = some t ∧ ReprK prog w bs h₀ (PyData.depthAll xs) y t :=
      fun k => ⟨k.length_eq, fun i y e => k.item i y (by rw [← List.getElem?_toArray]; exact e)⟩
    refine ⟨⟨⟨_, r⟩, fun sh short => ?_⟩, fun sh short => ?_⟩ <;> obtain ⟨bs, below, out, k⟩ := go sh short
    · rw [PyData.depth, PyData.shown]
      exact ⟨a :: bs, ReadAtMost.cons r (by rw [PyData.depth]; omega) below, ReprK.list at_a cl dt out (each k).1 (each k).2⟩
    · refine ⟨a, _, _, rfl, slots ?_⟩
      intro A E s Q calm room kept done
      rw [PyData.depth] at room
      rw [PyData.shown] at done short
      exact call_list_reprK at_a cl dt out (each k).1 (each k).2 calm (fun b _ => Clear.nil b) room kept done short
theorem tells_empty {a : Addr} {o : Obj} {es : Array DictEntry} {n : Nat} (other : a ≠ sysModules) (at_a : h₀.get? a = some o) (cl : o.cls = .type "dict") (dt : o.data = .dict es n) (no : es.toList = []) :
    Tells prog w h₀ (.ref a) (.dict []) ∧ Shows prog w h₀ (.ref a) (.dict []) := by
  have r : Reads h₀ (.ref a) (.dict []) [a] := Reads.dict (kvs := []) (as := []) (bs := []) at_a cl dt (by rw [no]; exact ReadsAll.nil) (by rw [no]; exact ReadsAll.nil)
  have out : (a == sysModules) = false := beq_false_of_ne other
  have entries : ReprEntriesK prog w [] h₀ 0 es.toList [] := by rw [no]; exact .nil
  have deep : (PyData.dict []).depth = 0 + 1 := by rw [PyData.depth, PyData.depthKv]
  have text : (PyData.dict []).shown = dictText [] := by rw [PyData.shown, PyData.shownKv]
  refine ⟨⟨⟨_, r⟩, fun _ _ => ⟨[a], ReadAtMost.cons r (Nat.le_refl _) nofun, ?_⟩⟩, fun _ short => ⟨a, "dict", "dict.__repr__", rfl, { slotRepr := F.slot_dict_repr, slotStr := F.slot_dict_str, slotFmt := F.slot_dict_format, typeIs := fun s kept => ⟨o, kept _ _ at_a, cl⟩, call := ?_ }⟩⟩
  · rw [deep, text]
    exact ReprK.dict at_a cl dt out List.not_mem_nil entries
  · intro A E s Q calm room kept done
    rw [deep] at room
    rw [text] at done short
    exact call_dict_reprK at_a cl dt out List.not_mem_nil entries calm (fun b _ => Clear.nil b) room kept done short
theorem tells_flat {v : Value} {d : PyData} {t : Str} (r : Reads h₀ v d []) (is : d.showable = true → d.shown.length ≤ sizeLine → ReprIs prog w v d.shown) : Tells prog w h₀ v d :=
  ⟨⟨_, r⟩, fun sh short => ⟨[], nofun, .of_is (is sh short) _ _ _⟩⟩
mutual
theorem RdN.tells : ∀ (d : PyData) {v : Value}, RdN h₀ v d → Tells prog w h₀ v d
  | .none, _, r => tells_flat (t := "") r fun _ _ => by cases r; exact ReprIs.none
  | .bool _, _, r => tells_flat (t := "") r fun _ _ => by cases r; exact ReprIs.bool _
  | .int _, _, r => tells_flat (t := "") r fun sh _ => by cases r; exact ReprIs.int _ (by simpa [PyData.showable] using sh)
  | .str _, _, r => tells_flat (t := "") r fun _ short => by cases r; exact ReprIs.str _ _ (by rw [PyData.shown] at short; exact short)
  | .list xs, _, r => by obtain ⟨a, o, vs, n, rfl, h1, h2, h3, h4⟩ := r; exact (tells_list h1 h2 h3 (RdNs.tells xs h4)).1
  | .tuple xs, _, r => by obtain ⟨a, o, vs, n, rfl, h1, h2, h3, h4⟩ := r; exact (tells_tuple h1 h2 h3 (RdNs.tells xs h4)).1
  | .dict kvs, _, r => by obtain ⟨rfl, a, o, es, n, rfl, h1, h2, h3, h4, h5⟩ := r; exact (tells_empty h1 h2 h3 h4 h5).1
theorem RdNs.tells : ∀ (ds : List PyData) {vs : List Value}, RdNs h₀ vs ds → TellsAll prog w h₀ vs ds
  | [], _, r => by cases r; exact .none
  | d :: ds, _, r => by obtain ⟨v, us, rfl, a, b⟩ := r; exact .more (RdN.tells d a) (RdNs.tells ds b)
end
theorem RdN.shows {a : Addr} : ∀ {d : PyData}, RdN h₀ (.ref a) d → Shows prog w h₀ (.ref a) d
  | .none, r => nomatch (show Reads _ _ _ _ from r)
  | .bool _, r => nomatch (show Reads _ _ _ _ from r)
  | .int _, r => nomatch (show Reads _ _ _ _ from r)
  | .str _, r => nomatch (show Reads _ _ _ _ from r)
  | .list xs, r => by obtain ⟨b, o, vs, n, e, h1, h2, h3, h4⟩ := r; cases e; exact (tells_list h1 h2 h3 (RdNs.tells xs h4)).2
  | .tuple xs, r => by obtain ⟨b, o, vs, n, e, h1, h2, h3, h4⟩ := r; cases e; exact (tells_tuple h1 h2 h3 (RdNs.tells xs h4)).2
  | .dict kvs, r => by obtain ⟨rfl, b, o, es, n, e, h1, h2, h3, h4, h5⟩ := r; cases e; exact (tells_empty h1 h2 h3 h4 h5).2
theorem repr_of_N {a : Addr} {d : PyData} {A : Around} {E : Value → Shared → Prop} {s : Shared} {Q : Value → Shared → Prop} (r : RdN s.heap (.ref a) d) (sh : d.showable = true) (short : d.shown.length ≤ sizeLine) (calm : A.guards = some []) (room : A.units + (d.depth + 1) < cLine)
    (done : ∀ h' u tk, (∀ b o, s.heap.get? b = some o → h'.get? b = some o) → Q (.str d.shown u) { s with heap := h', toks := tk }) : wpAny (model prog w) A (call (.builtin "repr") [.ref a]) Q E s := by
  obtain ⟨_, T, idr, e, S⟩ := RdN.shows (prog := prog) (w := w) r sh short
  cases e
  have in1 : A.in1.units = A.units + 1 := rfl
  exact call_repr_slot (by omega) (S.typeIs s fun _ _ e => e) S.slotRepr (S.call A.in1 E s _ calm (by omega) (fun _ _ e => e) fun h' u tk kept => ⟨_, _, rfl, done h' u tk kept⟩)
end
mutual
def noO : PyData → Bool
  | .list xs | .tuple xs => noOL xs
  | .dict (_ :: _) => false
  | _ => true
def noOL : List PyData → Bool
  | [] => true
  | x :: xs => noO x && noOL xs
end
mutual
theorem noO_show {K : PySem.W.Frag} {G : Hp} : ∀ {v : V} {d : PyData}, Dn K G v d → d.showable = true → noO d = true
  | _, _, .non, _ => rfl
  | _, _, .bl _, _ => rfl
  | _, _, .int _, _ => rfl
  | _, _, .str _, _ => rfl
  | _, _, .lst _ t, h => by rw [noO]; exact noOL_show t (by simpa [PyData.showable] using h)
  | _, _, .tup _ t, h => by rw [noO]; exact noOL_show t (by simpa [PyData.showable] using h)
  | _, _, .dic _ _, _ => rfl
  | _, _, .ob _ _ _ _, h => by
    have z : ¬ markI.natAbs.log2 < 1920 := by decide +kernel
    simp [PyData.showable, PyData.showableKv, z] at h
  | _, _, .fK _ _ _, h => by
    have z : ¬ markI.natAbs.log2 < 1920 := by decide +kernel
    simp [PyData.showable, PyData.showableKv, z] at h
  | _, _, .fT _ _ _, h => by
    have z : ¬ markI.natAbs.log2 < 1920 := by decide +kernel
    simp [PyData.showable, PyData.showableKv, z] at h
theorem noOL_show {K : PySem.W.Frag} {G : Hp} : ∀ {vs : List V} {ds : List PyData}, DnL K G vs ds → PyData.showableAll ds = true → noOL ds = true
  | _, _, .nil, _ => rfl
  | _, _, .cons a b, h => by
    rw [PyData.showableAll, Bool.and_eq_true] at h
    rw [noOL, noO_show a h.1, noOL_show b h.2]
    rfl
end
mutual
theorem noO_lay : ∀ d : PyData, d.canLay0 = true → noO d = true
  | .none, _ => rfl
  | .bool _, _ => rfl
  | .int _, _ => rfl
  | .str _, _ => rfl
  | .list xs, h => by rw [noO]; exact noOL_lay xs (by simpa [PyData.canLay0] using h)
  | .tuple xs, h => by rw [noO]; exact noOL_lay xs (by simpa [PyData.canLay0] using h)
  | .dict _, h => by simp [PyData.canLay0] at h
theorem noOL_lay : ∀ ds : List PyData, PyData.canLayAll0 ds = true → noOL ds = true
  | [], _ => rfl
  | d :: ds, h => by
    rw [PyData.canLayAll0, Bool.and_eq_true] at h
    rw [noOL, noO_lay d h.1, noOL_lay ds h.2]
    rfl
end
omit [Tb] in
@[simp] theorem noO_i (i : Int) : noO (.int i) = true := rfl
omit [Tb] in
@[simp] theorem noO_b (i : Bool) : noO (.bool i) = true := rfl
omit [Tb] in
@[simp] theorem noO_s (i : Str) : noO (.str i) = true := rfl
omit [Tb] in
@[simp] theorem noO_n : noO .none = true := rfl
omit [Tb] in
@[simp] theorem noOL_e : noOL [] = true := rfl
section
variable {X : Cx} {pins : List (Addr × Obj)} {σ : L2.St} {H : Hp} {s : Shared}
mutual
theorem Dn.rdN (I : L2.Inv X pins σ H s) : ∀ (d : PyData) {v : V} {u : Value}, noO d = true → Dn X.K H v d → RelV v u → RdN s.heap u d
  | .none, _, _, _, h, r => by cases h; cases r; exact Reads.none
  | .bool b, _, _, _, h, r => by cases h; cases r; exact Reads.bool b
  | .int i, _, _, _, h, r => by cases h; obtain ⟨t, rfl⟩ := r; exact Reads.int i t
  | .str x, _, _, _, h, r => by cases h; obtain ⟨t, rfl⟩ := r; exact Reads.str x t
  | .list ds, _, _, c, .lst h t, r => by
    rw [noO] at c
    cases r
    obtain ⟨its, rv, ⟨o, n, ho, hc, _, hd⟩, _⟩ := I.list (SqL.of h)
    exact ⟨_, o, _, n, rfl, ho, hc, hd, DnL.rdN I ds c t rv⟩
  | .tuple ds, _, _, c, .tup h t, r => by
    rw [noO] at c
    cases r
    obtain ⟨its, rv, ⟨o, ho, hc, n, hd⟩, _⟩ := I.tuple h.sq
    exact ⟨_, o, _, n, rfl, ho, hc, hd, DnL.rdN I ds c t rv⟩
  | .dict (_ :: _), _, _, c, _, _ => by simp [noO] at c
  | .dict [], _, _, _, .dic h n, r => by
    cases r
    obtain ⟨_, other, vs, kv, o, es, ep, ho, ⟨hc, _⟩, hd, _, hp, _⟩ := I.hok _ _ h
    cases kv
    have no : ∀ l, Pairs (mixKind X.prog X.w) l ([] : List (L2.Key × Value)) → l = [] := fun l q => by cases q; rfl
    exact ⟨rfl, _, o, es, ep, rfl, beq_eq_false_iff_ne.mp other, ho, hc, hd, no _ hp⟩
theorem DnL.rdN (I : L2.Inv X pins σ H s) : ∀ (ds : List PyData) {vs : List V} {us : List Value}, noOL ds = true → DnL X.K H vs ds → Vals vs us → RdNs s.heap us ds
  | [], _, _, _, h, r => by cases h; cases r; exact rfl
  | d :: ds, _, _, c, .cons a b, .cons r1 r2 => by
    rw [noOL, Bool.and_eq_true] at c
    exact ⟨_, _, rfl, Dn.rdN I d c.1 a r1, DnL.rdN I ds c.2 b r2⟩
end
end

def pReprN : PN := one fun x R => x.showable = true ∧ x.depth ≤ 60 ∧ x.shown.length ≤ 16000000 ∧ R (.str x.shown)
section
variable {X : Cx}
theorem c_reprN (hg : X.A.guards = some []) (hu : X.A.units + 64 < cLine) : CallD X (.builtin "repr") pReprN := by
  intro pins s σ H vs us Q I r ⟨B, G, δ, σ', ds, R, rel, b, q, k⟩
  match ds, q with
  | [d], ⟨q1, q3, q4, q⟩ =>
    obtain ⟨v, rfl, bd⟩ := b.one
    obtain ⟨u, rfl, ru⟩ := vals1 r; have dn := bd.dn rel
    have fin := k (.str d.shown) H G _ q (Same.refl _) rel (Dn.str _)
    have hsz : d.shown.length ≤ sizeLine := Nat.le_trans q4 (by decide)
    have rd := Dn.rdN I d (noO_show dn q1) dn ru
    have go : ∀ {x : Str} {t : Tok} {s' : Shared}, x = d.shown → Inv X pins σ H s' → EP X pins σ Q (.str x t) s' := fun {x t s'} e I' => by
      subst e
      exact ⟨.str d.shown, H, I', ⟨t, rfl⟩, fin⟩
    have big : ∀ a, u = .ref a → wpAny (model X.prog X.w) X.A (call (.builtin "repr") [u]) (EP X pins σ Q) X.xe s := fun a e => by
      subst e
      exact repr_of_N rd q1 hsz hg (by omega) fun h' u tk hk => go rfl (I.kept hk)
    cases dn with
    | non => cases ru; exact PySem.P.repr_of_none (go rfl (I.tok _))
    | bl b => cases ru; exact PySem.P.repr_of_bool (go (by cases b <;> simp [PyData.shown]) (I.tok _))
    | int i => obtain ⟨t, rfl⟩ := ru; exact PySem.P.repr_of_int (by simpa [PyData.showable] using q1) (go (by simp [PyData.shown]) (I.tok _))
    | str z => obtain ⟨t, rfl⟩ := ru; exact PySem.P.repr_of_str (go (by simp [PyData.shown]) (I.tok _)) (by simpa [PyData.shown] using hsz)
    | lst h t => cases ru; exact big _ rfl
    | tup h t => cases ru; exact big _ rfl
    | dic h n => cases ru; exact big _ rfl
    | ob h k e t => cases ru; exact big _ rfl
    | fK h e t => cases ru; exact big _ rfl
    | fT h e t => cases ru; exact big _ rfl
end
omit [Tb] in
@[simp ↓] theorem pReprN_x (x : PyData) (R : PyData → Prop) : pReprN [x] R = (x.showable = true ∧ x.depth ≤ 60 ∧ x.shown.length ≤ 16000000 ∧ R (.str x.shown)) := rfl
end DL
set_option Elab.async false
set_option linter.all false
set_option maxRecDepth 100000
set_option maxHeartbeats 4000000
namespace DL
open PySem PySem.Spec PyProof.Rows L2
variable [Tb]
section
variable {prog : Program} {w : World} {A : Around} {E : Value → Shared → Prop} {s : Shared}
end
section
variable {X : Cx}
def revD (x : PyData) (k : PyData → Prop) : Prop := match x with
  | .list ds => k (.list ds.reverse)
  | .tuple ds => k (.tuple ds.reverse)
  | _ => False
omit [Tb] in
@[simp ↓] theorem revD_l (ds : List PyData) (k : PyData → Prop) : revD (.list ds) k = k (.list ds.reverse) := rfl
omit [Tb] in
@[simp ↓] theorem revD_t (ds : List PyData) (k : PyData → Prop) : revD (.tuple ds) k = k (.tuple ds.reverse) := rfl
def wRevA (w : DE) : DE := fun δ R => w δ fun o δ1 => use o δ1 fun x => revD x fun z => R (.d z) δ1
omit [Tb] in
@[simp ↓] theorem wRevA_ap (w : DE) (δ : DS) (R : Opd → DS → Prop) : wRevA w δ R = (w δ fun o δ1 => use o δ1 fun x => revD x fun z => R (.d z) δ1) := rfl
def pAddB : P2 := fun x y R => match x, y with
  | .bool b, .int j => R (.int ((if b = true then 1 else 0) + j))
  | x, y => pAdd x y R
def pSubB : P2 := fun x y R => match x, y with
  | .bool b, .int j => R (.int ((if b = true then 1 else 0) - j))
  | x, y => pSub x y R
theorem d_addB : OpD X (binaryOp .Add) pAddB := by
  intro pins s σ H x y v u Q I rx ry ⟨B, G, δ, σ', dx, dy, R, rel, bx, by', q, k⟩
  by_cases c : ∃ b j, dx = .bool b ∧ dy = .int j
  · obtain ⟨b, j, rfl, rfl⟩ := c
    obtain rfl := bor_bool bx
    obtain rfl := bor_int by'
    cases rx
    obtain ⟨t, rfl⟩ := ry
    exact IntBool.add_bool_int ⟨.int _, H, I.tok _, ⟨_, rfl⟩, k _ H G _ q (Same.refl _) rel (Dn.int _)⟩
  · refine d_add pins s σ H x y v u Q I rx ry ⟨B, G, δ, σ', dx, dy, R, rel, bx, by', ?_, k⟩
    unfold pAddB at q
    split at q
    · exact absurd ⟨_, _, rfl, rfl⟩ c
    · exact q
omit [Tb] in
@[simp ↓] theorem pAddB_bi (b : Bool) (j : Int) (R : PyData → Prop) : pAddB (.bool b) (.int j) R = R (.int ((if b = true then 1 else 0) + j)) := rfl
omit [Tb] in
@[simp ↓] theorem pAddB_ii (i : Int) (j : Int) (R : PyData → Prop) : pAddB (.int i) (.int j) R = (R (.int (i + j))) := rfl
omit [Tb] in
@[simp ↓] theorem pAddB_ss (a : Str) (b : Str) (R : PyData → Prop) : pAddB (.str a) (.str b) R = (a.length + b.length ≤ 1000000 ∧ R (.str (a ++ b))) := rfl
omit [Tb] in
@[simp ↓] theorem pAddB_tt (xs : List PyData) (ys : List PyData) (R : PyData → Prop) : pAddB (.tuple xs) (.tuple ys) R = (xs.length + ys.length ≤ 1000000 ∧ R (.tuple (xs ++ ys))) := rfl
omit [Tb] in
@[simp ↓] theorem pAddB_ll (xs : List PyData) (ys : List PyData) (R : PyData → Prop) : pAddB (.list xs) (.list ys) R = (xs.length + ys.length ≤ 1000000 ∧ R (.list (xs ++ ys))) := rfl
omit [Tb] in
@[simp ↓] theorem pSubB_bi (b : Bool) (j : Int) (R : PyData → Prop) : pSubB (.bool b) (.int j) R = R (.int ((if b = true then 1 else 0) - j)) := rfl
omit [Tb] in
@[simp ↓] theorem pSubB_ii (i : Int) (j : Int) (R : PyData → Prop) : pSubB (.int i) (.int j) R = (R (.int (i - j))) := rfl
end
end DL
namespace DL
open PySem PySem.Spec PyProof.Rows L2
variable [Tb]
def pStrB : PN := one fun x R => match x with
  | .int i => i.natAbs.log2 < 1920 ∧ R (.str (toString i))
  | .bool b => R (.str (if b then ("True" : Str) else ("False" : Str)))
  | .str z => R (.str z)
  | _ => False
section
variable {X : Cx}
theorem c_strB : CallD X (.type "str") pStrB := by
  intro pins s σ H vs us Q I r ⟨B, G, δ, σ', ds, R, rel, b, q, k⟩
  match ds, q with
  | [d], q =>
    obtain ⟨v, rfl, bd⟩ := b.one
    cases d with
    | int i => obtain rfl := bor_int bd; exact call_str_int pins s σ H _ us Q I r ⟨i, rfl, q.1, k _ H G _ q.2 (Same.refl _) rel (Dn.str _)⟩
    | str z => obtain rfl := bor_str bd; exact SkE.call_str_str pins s σ H _ us Q I r ⟨z, rfl, k _ H G _ q (Same.refl _) rel (Dn.str _)⟩
    | bool kb =>
      obtain rfl := bor_bool bd
      obtain ⟨u, rfl, ru⟩ := vals1 r
      cases ru
      exact PySem.P.str_of_bool ⟨.str _, H, I.tok _, ⟨_, rfl⟩, k (.str (if kb then ("True" : Str) else ("False" : Str))) H G _ q (Same.refl _) rel (Dn.str _)⟩
    | _ => exact False.elim q
omit [Tb] in
@[simp ↓] theorem pStrB_i (i : Int) (R : PyData → Prop) : pStrB [.int i] R = (i.natAbs.log2 < 1920 ∧ R (.str (toString i))) := rfl
omit [Tb] in
@[simp ↓] theorem pStrB_b (b : Bool) (R : PyData → Prop) : pStrB [.bool b] R = R (.str (if b then ("True" : Str) else ("False" : Str))) := rfl
omit [Tb] in
@[simp ↓] theorem pStrB_s (z : Str) (R : PyData → Prop) : pStrB [.str z] R = R (.str z) := rfl
end
section
variable {P : Program} {w : World} {K : PySem.W.Frag} {mg : Str → Option Value} {base : Heap} {CX : CXT} {f : Addr} {fd : FuncData} {ps : List Str} {k : Nat}
end
end DL
set_option Elab.async false
set_option linter.all false
set_option maxRecDepth 100000
set_option maxHeartbeats 4000000
namespace DL
open PySem PySem.Spec PyProof.Rows L2
variable [Tb]
section
omit [Tb]
mutual
theorem noO_alike : ∀ d : PyData, W.alike d d = true → noO d = true
  | .none, _ => rfl
  | .bool _, _ => rfl
  | .int _, _ => rfl
  | .str _, _ => rfl
  | .list xs, h => by rw [noO]; exact noOL_alike xs (by simpa [W.alike] using h)
  | .tuple xs, h => by rw [noO]; exact noOL_alike xs (by simpa [W.alike] using h)
  | .dict _, h => by simp [W.alike] at h
theorem noOL_alike : ∀ ds : List PyData, W.alikeAll ds ds = true → noOL ds = true
  | [], _ => rfl
  | d :: ds, h => by
    rw [W.alikeAll, Bool.and_eq_true] at h
    rw [noOL, noO_alike d h.1, noOL_alike ds h.2]
    rfl
end
end
abbrev leD : PyData → PyData → Bool := W.dataLe false id
def sortD (ds : List PyData) : List PyData := ds.mergeSort leD
def pSorted : PN := one fun x R => match x with
  | .list ds => W.AllAlike ds ∧ W.Sortable ds ∧ ds.length ≤ 1000000 ∧ (∀ d ∈ ds, d.depth ≤ 50) ∧ R (.list (sortD ds))
  | _ => False
section
variable {X : Cx}
theorem each_zip {K : PySem.W.Frag} {G : Hp} : ∀ {vs : List V} {us : List Value} {ds : List PyData}, Vals vs us → DnL K G vs ds → W.EachIs (fun u (b : V × PyData) => RelV b.1 u ∧ Dn K G b.1 b.2) us (vs.zip ds)
  | _, _, _, .nil, .nil => .nil
  | _, _, _, .cons r t, .cons a b => .cons ⟨r, a⟩ (each_zip t b)
theorem each_unzip {K : PySem.W.Frag} {G : Hp} : ∀ {us : List Value} {bs : List (V × PyData)}, W.EachIs (fun u (b : V × PyData) => RelV b.1 u ∧ Dn K G b.1 b.2) us bs → Vals (bs.map Prod.fst) us ∧ DnL K G (bs.map Prod.fst) (bs.map Prod.snd)
  | _, _, .nil => ⟨.nil, .nil⟩
  | _, _, .cons h t => ⟨.cons h.1 (each_unzip t).1, .cons h.2 (each_unzip t).2⟩
theorem zip_snd : ∀ {α β : Type} {vs : List α} {ds : List β}, vs.length = ds.length → (vs.zip ds).map Prod.snd = ds
  | _, _, [], [], _ => rfl
  | _, _, _ :: _, _ :: _, h => by
    rw [List.zip_cons_cons, List.map_cons, zip_snd (Nat.succ.inj h)]
theorem sort_snd (bs : List (V × PyData)) : (bs.mergeSort (W.dataLe false Prod.snd)).map Prod.snd = sortD (bs.map Prod.snd) :=
  List.map_mergeSort fun a _ b _ => rfl
theorem c_sorted (hu : X.A.units + 64 < cLine) : CallD X (.builtin "sorted") pSorted := by
  intro pins s σ H vs us Q I r ⟨B, G, δ, σ', ds, R, rel, b, q, k⟩
  match ds, q with
  | [d], q =>
    obtain ⟨v, rfl, bd⟩ := b.one
    cases d with
    | list xs =>
      obtain ⟨q1, q2, q3, q4, q⟩ := q
      obtain ⟨a, ws, rfl, ha, ta⟩ := bor_lst rel bd
      obtain ⟨u, rfl, ru⟩ := vals1 r
      cases ru
      obtain ⟨its, rv, hl, hz⟩ := I.list (SqL.of ha)
      have e0 := each_zip rv ta
      have ln : ws.length = xs.length := ta.len
      have es : (ws.zip xs).map Prod.snd = xs := zip_snd ln
      refine W.sorted_data (enc := Prod.snd) (bs := ws.zip xs) hl.isList e0 ((W.each_mem e0).mono fun u b ⟨hb, hm⟩ => (Dn.rdN I b.2 (noO_alike _ (q1 _ (by rw [← es]; exact List.mem_map.mpr ⟨b, hm, rfl⟩) _ (by rw [← es]; exact List.mem_map.mpr ⟨b, hm, rfl⟩))) (hb.2.mono rel.sg) hb.1).reads) (by rw [es]; exact q1) (by rw [es]; exact q2) ?_ ?_ ?_
      · rw [List.length_zip, ln, Nat.min_self]
        exact Nat.le_trans q3 (by decide)
      · intro b hb
        have := q4 b.2 (List.of_mem_zip hb).2
        omega
      · intro out ho eo
        obtain ⟨n, hn⟩ := sortedAll_at s.heap its (List.toArray out)
        obtain ⟨v1, d1⟩ := each_unzip eo
        have np : H (s.heap.objs.size + 1) = none := I.hok.fresh (Nat.le_succ _)
        rw [sort_snd, es] at d1
        generalize hb : (List.mergeSort (ws.zip xs) (W.dataLe false Prod.snd)).map Prod.fst = nb at v1 d1
        obtain ⟨rel3, s3⟩ := rel.laid (o := .lst nb) np
        have lb : nb.length ≤ sizeLine := by
          rw [← hb, List.length_map, List.length_mergeSort, List.length_zip, ln, Nat.min_self]
          exact Nat.le_trans q3 (by decide)
        exact ⟨.ref _, upd H _ (.lst nb), I.laid (o := .lst nb) (t' := s.toks) (fun _ _ => sortedAll_old) (Nat.le_succ _) ⟨lb, out, n, v1, hn⟩, rfl, k _ _ _ _ q s3 rel3 (Dn.lst upd_same (DnL.mono s3 _ d1))⟩
    | _ => exact False.elim q
end
omit [Tb] in
@[simp ↓] theorem pSorted_l (ds : List PyData) (R : PyData → Prop) : pSorted [.list ds] R = (W.AllAlike ds ∧ W.Sortable ds ∧ ds.length ≤ 1000000 ∧ (∀ d ∈ ds, d.depth ≤ 50) ∧ R (.list (sortD ds))) := rfl
end DL
set_option Elab.async false
set_option linter.all false
set_option maxRecDepth 100000
set_option maxHeartbeats 4000000
namespace DL
open PySem PySem.Spec PyProof.Rows L2
variable [Tb]
def pMaxS : PN := one fun x R => match x with
  | .list ds => ∃ ns : List Int, ds = ns.map PyData.int ∧ 0 < ns.length ∧ ∀ m, m ∈ ns → (∀ y ∈ ns, y ≤ m) → R (.int m)
  | .tuple ds => ∃ ns : List Int, ds = ns.map PyData.int ∧ 0 < ns.length ∧ ∀ m, m ∈ ns → (∀ y ∈ ns, y ≤ m) → R (.int m)
  | _ => False
def pMinS : PN := one fun x R => match x with
  | .list ds => ∃ ns : List Int, ds = ns.map PyData.int ∧ 0 < ns.length ∧ ∀ m, m ∈ ns → (∀ y ∈ ns, m ≤ y) → R (.int m)
  | .tuple ds => ∃ ns : List Int, ds = ns.map PyData.int ∧ 0 < ns.length ∧ ∀ m, m ∈ ns → (∀ y ∈ ns, m ≤ y) → R (.int m)
  | _ => False
theorem alike_ints (ns : List Int) : W.AlikeAll (ns.map PyData.int) := ⟨fun x hx y hy => by
  obtain ⟨a, _, rfl⟩ := List.mem_map.mp hx
  obtain ⟨b, _, rfl⟩ := List.mem_map.mp hy
  rfl, fun x hx => by
  obtain ⟨a, _, rfl⟩ := List.mem_map.mp hx
  intro h; cases h⟩
section
variable {X : Cx}
end
omit [Tb] in
@[simp ↓] theorem pMaxS_l (ds : List PyData) (R : PyData → Prop) : pMaxS [.list ds] R = onIs ds (fun ns => 0 < ns.length ∧ ∀ m, m ∈ ns → (∀ y ∈ ns, y ≤ m) → R (.int m)) .mk := rfl
omit [Tb] in
@[simp ↓] theorem pMinS_l (ds : List PyData) (R : PyData → Prop) : pMinS [.list ds] R = onIs ds (fun ns => 0 < ns.length ∧ ∀ m, m ∈ ns → (∀ y ∈ ns, m ≤ y) → R (.int m)) .mk := rfl
omit [Tb] in
@[simp ↓] theorem pMaxS_t (ds : List PyData) (R : PyData → Prop) : pMaxS [.tuple ds] R = onIs ds (fun ns => 0 < ns.length ∧ ∀ m, m ∈ ns → (∀ y ∈ ns, y ≤ m) → R (.int m)) .mk := rfl
omit [Tb] in
@[simp ↓] theorem pMinS_t (ds : List PyData) (R : PyData → Prop) : pMinS [.tuple ds] R = onIs ds (fun ns => 0 < ns.length ∧ ∀ m, m ∈ ns → (∀ y ∈ ns, m ≤ y) → R (.int m)) .mk := rfl
end DL
set_option Elab.async false
set_option linter.all false
set_option maxRecDepth 100000
set_option maxHeartbeats 4000000
namespace DL
open PySem PySem.Spec PyProof.Rows L2
variable [Tb]
section
variable {X : Cx} {pos : Pos} {i : Nat}
end
def endsM (i : Nat) (cs : List Cell) (R : Cell → List Cell → Prop) : DEnds := { nx := fun δ => sameIo cs δ ∧ cs.length ≤ i ∧ ∃ a xs, δ[i]? = some (.ol a xs) ∧ R (.ol a xs) (outC cs δ), rt := fun _ _ => False }
section
variable {P : Program} {w : World} {K : PySem.W.Frag} {mg : Str → Option Value} {base : Heap}
end
def wLstRg1 (w : DE) : DL := fun δ R => w δ fun o δ1 => use o δ1 fun x => asI x (fun n => -1000000 ≤ n ∧ n ≤ 1000000 ∧ R (nums 0 n.toNat) δ1) .mk
def wLstRg2 (w u : DE) : DL := fun δ R => w δ fun o δ1 => u δ1 fun o2 δ2 => use o δ2 fun x => use o2 δ2 fun y => asI x (fun m => asI y (fun n => (-1000000 ≤ m ∧ m ≤ 1000000 ∧ -1000000 ≤ n ∧ n ≤ 1000000) ∧ R (nums m (n - m).toNat) δ2) .mk) .mk
omit [Tb] in
@[simp ↓] theorem wLstRg1_ap (w : DE) (δ : DS) (R : List PyData → DS → Prop) : wLstRg1 w δ R = (w δ fun o δ1 => use o δ1 fun x => asI x (fun n => -1000000 ≤ n ∧ n ≤ 1000000 ∧ R (nums 0 n.toNat) δ1) .mk) := rfl
omit [Tb] in
@[simp ↓] theorem wLstRg2_ap (w u : DE) (δ : DS) (R : List PyData → DS → Prop) : wLstRg2 w u δ R = (w δ fun o δ1 => u δ1 fun o2 δ2 => use o δ2 fun x => use o2 δ2 fun y => asI x (fun m => asI y (fun n => (-1000000 ≤ m ∧ m ≤ 1000000 ∧ -1000000 ≤ n ∧ n ≤ 1000000) ∧ R (nums m (n - m).toNat) δ2) .mk) .mk) := rfl
section
variable {X : Cx} {pos : Pos}
def wPopA (i : Nat) (w : DE) : DE := fun δ R => isOl δ i ∧ w δ fun o δ1 => use o δ1 fun z => asI z (fun j => olC δ1[i]? (fun a xs => 0 ≤ j ∧ j < xs.length ∧ xs.length ≤ 1000000 ∧ onS xs[j.toNat]? (fun y => R (.d y) (δ1.set i (.ol a (xs.eraseIdx j.toNat)))) .mk) .mk) .mk
omit [Tb] in
@[simp ↓] theorem wPopA_ap (i : Nat) (w : DE) (δ : DS) (R : Opd → DS → Prop) : wPopA i w δ R = (isOl δ i ∧ w δ fun o δ1 => use o δ1 fun z => asI z (fun j => olC δ1[i]? (fun a xs => 0 ≤ j ∧ j < xs.length ∧ xs.length ≤ 1000000 ∧ onS xs[j.toNat]? (fun y => R (.d y) (δ1.set i (.ol a (xs.eraseIdx j.toNat)))) .mk) .mk) .mk) := rfl
end
def lsC (x : PyData) (k : List PyData → Prop) (_u : Stop k) : Prop := match x with
  | .list xs => k xs
  | _ => False
omit [Tb] in
@[simp ↓] theorem lsC_l (xs : List PyData) (k : List PyData → Prop) (u : Stop k) : lsC (.list xs) k u = k xs := rfl
def ixOf (ds : List PyData) (y : PyData) : Option Nat := ds.findIdx? fun z => PyData.eqv z y
def wIndex (w u : DE) : DE := fun δ R => w δ fun o δ1 => use o δ1 fun x => lsC x (fun _ => u δ1 fun o2 δ2 => use o δ2 fun x2 => use o2 δ2 fun y => lsC x2 (fun ds => SeqAt.shaped (.list ds) = true ∧ SeqAt.shaped y = true ∧ onS (ixOf ds y) (fun j => R (.d (.int (j : Nat))) δ2) .mk) .mk) .mk
omit [Tb] in
@[simp ↓] theorem wIndex_ap (w u : DE) (δ : DS) (R : Opd → DS → Prop) : wIndex w u δ R = (w δ fun o δ1 => use o δ1 fun x => lsC x (fun _ => u δ1 fun o2 δ2 => use o δ2 fun x2 => use o2 δ2 fun y => lsC x2 (fun ds => SeqAt.shaped (.list ds) = true ∧ SeqAt.shaped y = true ∧ onS (ixOf ds y) (fun j => R (.d (.int (j : Nat))) δ2) .mk) .mk) .mk) := rfl
section
variable {X : Cx} {pos : Pos}
end
end DL
set_option Elab.async false
set_option linter.all false
set_option maxRecDepth 100000
set_option maxHeartbeats 4000000
namespace DL
open PySem PySem.Spec PyProof.Rows L2
variable [Tb]
variable {g : DTG} {t : DT} {e : DE} {vs : List Nat} {xs : List PyData} {δ : DS}
end DL
set_option Elab.async false
set_option linter.all false
set_option maxRecDepth 100000
set_option maxHeartbeats 4000000
namespace DL
open PySem PySem.Spec PyProof.Rows L2
variable [Tb]
mutual
theorem eq_of_eqv : ∀ (x y : PyData), W.alike x y = true → PyData.eqv x y = true → x = y
  | .none, y, h, e => by cases y <;> simp [W.alike] at h ⊢
  | .bool a, y, h, e => by cases y <;> simp [W.alike, PyData.eqv] at h e ⊢; exact e
  | .int a, y, h, e => by cases y <;> simp [W.alike, PyData.eqv] at h e ⊢; exact e
  | .str a, y, h, e => by cases y <;> simp [W.alike, PyData.eqv] at h e ⊢; exact e
  | .list xs, y, h, e => by
    cases y with
    | list ys => rw [eq_of_eqvAll xs ys (by simpa [W.alike] using h) (by simpa [PyData.eqv] using e)]
    | _ => simp [W.alike] at h
  | .tuple xs, y, h, e => by
    cases y with
    | tuple ys => rw [eq_of_eqvAll xs ys (by simpa [W.alike] using h) (by simpa [PyData.eqv] using e)]
    | _ => simp [W.alike] at h
  | .dict xs, y, h, e => by cases y <;> simp [W.alike] at h
theorem eq_of_eqvAll : ∀ (xs ys : List PyData), W.alikeAll xs ys = true → PyData.eqvAll xs ys = true → xs = ys
  | [], ys, h, e => by cases ys <;> simp [PyData.eqvAll] at e ⊢
  | x :: xs, ys, h, e => by
    cases ys with
    | nil => simp [PyData.eqvAll] at e
    | cons y ys =>
      rw [W.alikeAll, Bool.and_eq_true] at h
      rw [PyData.eqvAll, Bool.and_eq_true] at e
      rw [eq_of_eqv x y h.1 e.1, eq_of_eqvAll xs ys h.2 e.2]
end
theorem leD_eq (x y : PyData) : leD x y = !W.dataLt y x := rfl
theorem leD_trans (a b c : PyData) (h1 : leD a b = true) (h2 : leD b c = true) : leD a c = true := by
  rw [leD_eq] at *
  simp only [Bool.not_eq_true'] at *
  cases h : W.dataLt c a with
  | false => rfl
  | true =>
    rcases lex_negTrans (O := itemOrd) (W.keyToks c) (W.keyToks b) (W.keyToks a) h with q | q
    · have : W.dataLt c b = true := q
      rw [h2] at this; cases this
    · have : W.dataLt b a = true := q
      rw [h1] at this; cases this
theorem leD_total (a b : PyData) : (leD a b || leD b a) = true := by
  rw [leD_eq, leD_eq]
  cases h1 : W.dataLt b a <;> cases h2 : W.dataLt a b <;> try rfl
  have := lex_trans (O := itemOrd) _ _ _ h1 h2
  rw [lex_irrefl] at this; cases this
theorem leD_anti {a b : PyData} (h : W.alike a b = true) (h1 : leD a b = true) (h2 : leD b a = true) : a = b := by
  rw [leD_eq] at h1 h2
  simp only [Bool.not_eq_true'] at h1 h2
  have e := lex_total (O := itemOrd) _ _ h1 h2
  refine eq_of_eqv a b h ?_
  cases q : PyData.eqv a b with
  | true => rfl
  | false =>
    have := (W.toks_eqv a b h).2 q [] [.inl 5]
    rw [List.append_nil, e] at this
    have p := W.lex_pre (W.keyToks a) [] [.inl 5]
    rw [List.append_nil] at p
    rw [p, lex_irrefl] at this
    cases this
theorem sort_pw (ds : List PyData) : (sortD ds).Pairwise fun a b => leD a b = true := List.pairwise_mergeSort leD_trans leD_total ds
theorem sort_perm {xs ys : List PyData} (ha : W.AllAlike xs) (h : xs.Perm ys) : sortD xs = sortD ys := by
  have p1 : (sortD xs).Perm xs := List.mergeSort_perm _ _
  have p2 : (sortD ys).Perm ys := List.mergeSort_perm _ _
  refine List.Perm.eq_of_pairwise (le := fun a b => leD a b = true) (fun a b ma mb l1 l2 => ?_) (sort_pw xs) (sort_pw ys) (p1.trans (h.trans p2.symm))
  exact leD_anti (ha _ (p1.mem_iff.mp ma) _ (h.mem_iff.mpr (p2.mem_iff.mp mb))) l1 l2
end DL
set_option Elab.async false
set_option linter.all false
set_option maxRecDepth 100000
set_option maxHeartbeats 4000000
namespace DL
open PySem PySem.Spec PyProof.Rows L2
variable [Tb]
inductive Pt
  | val (d : PyData)
  | cap (i : Nat)
def eachM : List Pt → List PyData → (Option (List (Nat × PyData)) → Prop) → Prop
  | [], [], k => k (some [])
  | .val d :: ps, x :: xs, k => pEq x d fun z => ∃ b, z = .bool b ∧ if b = true then eachM ps xs k else k none
  | .cap i :: ps, x :: xs, k => eachM ps xs fun o => match o with
    | none => k none
    | some bs => k (some ((i, x) :: bs))
  | _, _, _ => False
def setsD (δ : DS) : List (Nat × PyData) → DS
  | [] => δ
  | (i, x) :: r => setsD (δ.set i (.d x)) r
inductive Ct
  | seq (ps : List Pt) (b : DTS)
  | wild (b : DTS)
def caseM : List Ct → List PyData → DTS
  | [], _, E, δ => E.nx δ
  | .wild b :: _, _, E, δ => b E δ
  | .seq ps b :: cs, xs, E, δ => if xs.length = ps.length then eachM ps xs fun o => match o with
      | none => caseM cs xs E δ
      | some bs => b E (setsD δ bs)
    else caseM cs xs E δ
def tpC (x : PyData) (k : List PyData → Prop) (_u : Stop k) : Prop := match x with
  | .tuple xs => k xs
  | _ => False
omit [Tb] in
@[simp ↓] theorem tpC_t (xs : List PyData) (k : List PyData → Prop) (u : Stop k) : tpC (.tuple xs) k u = k xs := rfl
def wMatch (w : DE) (cs : List Ct) : DTS := fun E δ => w δ fun o δ1 => lk o δ1 fun x δ2 => tpC x (fun xs => xs.length ≤ 1000000 ∧ caseM cs xs E δ2) .mk
omit [Tb] in
@[simp ↓] theorem wMatch_ap (w : DE) (cs : List Ct) (E : DEnds) (δ : DS) : wMatch w cs E δ = (w δ fun o δ1 => lk o δ1 fun x δ2 => tpC x (fun xs => xs.length ≤ 1000000 ∧ caseM cs xs E δ2) .mk) := rfl
omit [Tb] in
@[simp ↓] theorem eachM_nil (k : Option (List (Nat × PyData)) → Prop) : eachM [] [] k = k (some []) := rfl
omit [Tb] in
@[simp ↓] theorem eachM_val (d x : PyData) (ps : List Pt) (xs : List PyData) (k : Option (List (Nat × PyData)) → Prop) : eachM (.val d :: ps) (x :: xs) k = (pEq x d fun z => ∃ b, z = .bool b ∧ if b = true then eachM ps xs k else k none) := rfl
omit [Tb] in
@[simp ↓] theorem eachM_cap (i : Nat) (x : PyData) (ps : List Pt) (xs : List PyData) (k : Option (List (Nat × PyData)) → Prop) : eachM (.cap i :: ps) (x :: xs) k = (eachM ps xs fun o => match o with
    | none => k none
    | some bs => k (some ((i, x) :: bs))) := rfl
omit [Tb] in
@[simp ↓] theorem caseM_nil (xs : List PyData) (E : DEnds) (δ : DS) : caseM [] xs E δ = E.nx δ := rfl
omit [Tb] in
@[simp ↓] theorem caseM_wild (b : DTS) (cs : List Ct) (xs : List PyData) (E : DEnds) (δ : DS) : caseM (.wild b :: cs) xs E δ = b E δ := rfl
omit [Tb] in
@[simp ↓] theorem caseM_seq (ps : List Pt) (b : DTS) (cs : List Ct) (xs : List PyData) (E : DEnds) (δ : DS) : caseM (.seq ps b :: cs) xs E δ = (if xs.length = ps.length then eachM ps xs fun o => match o with
      | none => caseM cs xs E δ
      | some bs => b E (setsD δ bs)
    else caseM cs xs E δ) := rfl
omit [Tb] in
@[simp ↓] theorem setsD_nil (δ : DS) : setsD δ [] = δ := rfl
omit [Tb] in
@[simp ↓] theorem setsD_cons (δ : DS) (i : Nat) (x : PyData) (r : List (Nat × PyData)) : setsD δ ((i, x) :: r) = setsD (δ.set i (.d x)) r := rfl
inductive PtOk (X : Cx) : List Pattern → List Pt → Prop
  | nil : PtOk X [] []
  | val {e : Expr} {v : V} {d : PyData} {pos : Pos} {ps : List Pattern} {qs : List Pt} (h : PE X e (tC v)) (hv : ∀ K G, Dn K G v d) (t : PtOk X ps qs) : PtOk X (.MatchValue e pos :: ps) (.val d :: qs)
  | cap {x : Str} {i : Nat} {pos : Pos} {ps : List Pattern} {qs : List Pt} (hi : X.N[i]? = some x) (hx : Loc X.env.scope x) (hf : X.fn x = true ∨ X.env.scope.names.lookup x = some .local) (t : PtOk X ps qs) : PtOk X (.MatchAs none (some x) pos :: ps) (.cap i :: qs)
theorem PtOk.len {X : Cx} {ps : List Pattern} {qs : List Pt} (h : PtOk X ps qs) : ps.length = qs.length := by
  induction h with
  | nil => rfl
  | val _ _ _ ih => simp [ih]
  | cap _ _ _ _ ih => simp [ih]
inductive BsOk (X : Cx) (G : Hp) : List (Str × Value) → List (Nat × PyData) → Prop
  | nil : BsOk X G [] []
  | cons {x : Str} {u : Value} {v : V} {i : Nat} {d : PyData} {bs : List (Str × Value)} {os : List (Nat × PyData)} (hi : X.N[i]? = some x) (hx : Loc X.env.scope x) (hf : X.fn x = true ∨ X.env.scope.names.lookup x = some .local) (r : RelV v u) (h : Dn X.K G v d) (t : BsOk X G bs os) : BsOk X G ((x, u) :: bs) ((i, d) :: os)
inductive RoOk (X : Cx) (G : Hp) : Option (List (Str × Value)) → Option (List (Nat × PyData)) → Prop
  | none : RoOk X G none none
  | some {bs : List (Str × Value)} {os : List (Nat × PyData)} (h : BsOk X G bs os) : RoOk X G (some bs) (some os)
section
variable {X : Cx}
inductive CsOk (X : Cx) : List MatchCase → List Ct → Prop
  | nil : CsOk X [] []
  | wild {body : List Stmt} {b : DTS} {pos : Pos} {rest : List MatchCase} {ws : List Ct} (hb : JSs X body b) : CsOk X (⟨.MatchAs none none pos, none, body⟩ :: rest) (.wild b :: ws)
  | seq {ps : List Pattern} {qs : List Pt} {pos : Pos} {body : List Stmt} {b : DTS} {rest : List MatchCase} {ws : List Ct} (h : PtOk X ps qs) (hstar : ps.findIdx? (·.isStar) = none) (hwild : (ps.all fun p => p.isWildcard || (p.isStar && p.names.isEmpty)) = false) (hb : JSs X body b) (t : CsOk X rest ws) : CsOk X (⟨.MatchSequence ps pos, none, body⟩ :: rest) (.seq qs b :: ws)
theorem PtOk.str {x : Str} {j : Nat} {p pos : Pos} {ps : List Pattern} {qs : List Pt} (t : PtOk X ps qs) : PtOk X (.MatchValue (.Constant (.str x) j p) pos :: ps) (.val (.str x) :: qs) := .val pe_str (fun _ _ => .str x) t
theorem PtOk.int {x : Int} {j : Nat} {p pos : Pos} {ps : List Pattern} {qs : List Pt} (t : PtOk X ps qs) : PtOk X (.MatchValue (.Constant (.int x) j p) pos :: ps) (.val (.int x) :: qs) := .val pe_int (fun _ _ => .int x) t
end
end DL
namespace DL
open PySem PySem.Spec PyProof.Rows L2
variable [Tb]
end DL
set_option Elab.async false
set_option linter.all false
set_option maxRecDepth 100000
set_option maxHeartbeats 4000000
namespace DL
open PySem PySem.Spec PyProof.Rows L2
variable [Tb]
def wPar4 (i j k l : Nat) (w : DMs) : DTS := fun E δ => w δ fun cs δ1 => ∃ c d e f, cs = [c, d, e, f] ∧ E.nx ((((δ1.set i c).set j d).set k e).set l f)
omit [Tb] in
@[simp ↓] theorem wPar4_ap (i j k l : Nat) (w : DMs) (E : DEnds) (δ : DS) : wPar4 i j k l w E δ = (w δ fun cs δ1 => match cs with
  | [c, d, e, f] => E.nx ((((δ1.set i c).set j d).set k e).set l f)
  | _ => False) := by
  unfold wPar4
  congr 1; funext cs δ1
  match cs with
  | [] => simp
  | [c] => simp
  | [c, d] => simp
  | [c, d, e] => simp
  | [c, d, e, f] => exact propext ⟨fun ⟨c', d', e', f', h0, h⟩ => by cases h0; exact h, fun h => ⟨c, d, e, f, rfl, h⟩⟩
  | c :: d :: e :: f :: g :: r => simp
section
variable {X : Cx} {pos : Pos}
end
end DL
set_option Elab.async false
set_option linter.all false
set_option maxRecDepth 100000
set_option maxHeartbeats 4000000
namespace DL
open PySem PySem.Spec PyProof.Rows L2
variable [Tb]
section
variable {X : Cx} {pos : Pos}
end
end DL
set_option Elab.async false
set_option linter.all false
set_option maxRecDepth 100000
set_option maxHeartbeats 4000000
namespace DL
open PySem PySem.Spec PyProof.Rows L2
variable [Tb]
section
variable {X : Cx}
def pMulW : P2 := fun x y R => match x, y with
  | .tuple xs, .int k => (0 < xs.length ∧ xs.length ≤ 10 ∧ 2 ≤ k ∧ k ≤ 100000) ∧ R (.tuple (List.replicate k.toNat xs).flatten)
  | _, _ => False
omit [Tb] in
@[simp ↓] theorem pMulW_ti (xs : List PyData) (k : Int) (R : PyData → Prop) : pMulW (.tuple xs) (.int k) R = ((0 < xs.length ∧ xs.length ≤ 10 ∧ 2 ≤ k ∧ k ≤ 100000) ∧ R (.tuple (List.replicate k.toNat xs).flatten)) := rfl
end
end DL
set_option Elab.async false
set_option linter.all false
set_option maxRecDepth 100000
set_option maxHeartbeats 4000000
namespace DL
open PySem PySem.Spec PyProof.Rows L2
variable [Tb]
section
variable {X : Cx} {nm : Option Str} {e : Expr} {kws : List Keyword} {kpos : Pos}
end
def permO {α : Type} (z : α) (ix : List Nat) (os : List α) : List α := ix.map fun i => os.getD i z
def KB0 (K : PySem.W.Frag) (fd : FuncData) (ps ks : List Str) (ix : List Nat) : Prop :=
  ∀ (s : Shared) (ws : List Value), K.In s.heap → ws.length = ks.length → BindsTo s fd ⟨[], ks.zip ws⟩ (ps.zip (permO Value.none ix ws))
theorem KB0.of {K : PySem.W.Frag} {fd : FuncData} {ps ks : List Str} {ix : List Nat} (h : ∀ ws : List Value, ws.length = ks.length → bindArgs fd ⟨[], ks.zip ws⟩ = pure (ps.zip (permO Value.none ix ws))) : KB0 K fd ps ks ix := fun s ws _ hl => .of_eq (h ws hl)
theorem Fun.kb {K : PySem.W.Frag} {x qual : Str} {st : Stmt} {f : Addr} {fd : FuncData} {ps ks : List Str} {ix : List Nat} (F : Fun K x qual st f fd)
    (h : ∀ (kV doc pm : Value) (an : Option Addr) (cdv ct : Value) (ws : List Value), ws.length = ks.length → bindArgs (PySem.W.fnOf x qual (defArgs st) (defBody st) (defScope st) .none kV doc pm an cdv ct) ⟨[], ks.zip ws⟩ = pure (ps.zip (permO Value.none ix ws))) : KB0 K fd ps ks ix := by
  obtain ⟨oc, od, kV, doc, pm, an, cdv, ct, osl, rfl, lk, hcd⟩ := F.ex
  exact .of (h kV doc pm an cdv ct)
def wCallK (n : Nat) (ix : List Nat) (sp : DSp) (w : DA) : DE := fun δ R => w δ fun os δ1 => lkM [] os δ1 fun os' δ2 => (os'.length = n ∧ ∀ i ∈ ix, i < n) ∧ (slotsOf (permO (.d .none) ix os')).Nodup ∧ sp ((permO (.d .none) ix os').map (cellOf δ2)) fun x cs => R (.d x) (putBack (permO (.d .none) ix os') cs δ2)
theorem getD_some {α : Type} {l : List α} {i : Nat} (h : i < l.length) (z : α) : l[i]? = some (l.getD i z) := by
  rw [List.getD_eq_getElem?_getD, List.getElem?_eq_getElem h]; rfl
section
variable {X : Cx} {CX : CXT} {k : Nat} {f : Addr} {fd : FuncData} {ps ks : List Str} {x : Str} {p pos : Pos} {kws : List Keyword} {ix : List Nat}
end
omit [Tb] in
@[simp ↓] theorem wCallK_ap (n : Nat) (ix : List Nat) (sp : DSp) (w : DA) (δ : DS) (R : Opd → DS → Prop) : wCallK n ix sp w δ R = (w δ fun os δ1 => lkM [] os δ1 fun os' δ2 => (os'.length = n ∧ ∀ i ∈ ix, i < n) ∧ (slotsOf (permO (.d .none) ix os')).Nodup ∧ ask sp ((permO (.d .none) ix os').map (cellOf δ2)) (fun x cs => R (.d x) (putBack (permO (.d .none) ix os') cs δ2)) .mk) := rfl
omit [Tb] in
@[simp ↓] theorem permO_nil {α : Type} (z : α) (os : List α) : permO z [] os = [] := rfl
omit [Tb] in
@[simp ↓] theorem permO_cons {α : Type} (z : α) (i : Nat) (ix : List Nat) (os : List α) : permO z (i :: ix) os = os.getD i z :: permO z ix os := rfl
end DL
set_option Elab.async false
set_option linter.all false
set_option maxRecDepth 100000
set_option maxHeartbeats 4000000
namespace DL
open PySem PySem.Spec PyProof.Rows L2
variable [Tb]
abbrev KVs := List (List Int × PyData)
def valD (kvs : KVs) (k : List Int) : Option PyData := (kvs.find? fun p => decide (p.1 = k)).map (·.2)
def putD (kvs : KVs) (k : List Int) (x : PyData) : KVs := if (kvs.any fun p => decide (p.1 = k)) = true then kvs.map (fun p => if p.1 = k then (p.1, x) else p) else kvs ++ [(k, x)]
theorem keyI_inj : ∀ {a b : List Int}, keyI a = keyI b → a = b
  | [], [], _ => rfl
  | [], _ :: _, h => by simp [keyI] at h
  | _ :: _, [], h => by simp [keyI] at h
  | x :: a, y :: b, h => by
    have h : (Sum.inl x : Key) :: keyI a = (Sum.inl y : Key) :: keyI b := h
    obtain ⟨h1, h2⟩ := List.cons.inj h
    rw [keyI_inj h2, Sum.inl.inj h1]
section
variable {K : PySem.W.Frag} {G : Hp}
theorem DnK.nil : DnK K G [] [] := ⟨rfl, .nil⟩
theorem DnK.cons {w : List Key × V} {ws : List (List Key × V)} {p : List Int × PyData} {kvs : KVs} (h1 : w.1 = keyI p.1) (h2 : Dn K G w.2 p.2) (t : DnK K G ws kvs) : DnK K G (w :: ws) (p :: kvs) := ⟨by rw [List.map_cons, List.map_cons, h1, t.1], .cons h2 t.2⟩
theorem DnK.inv {ws : List (List Key × V)} {p : List Int × PyData} {kvs : KVs} (h : DnK K G ws (p :: kvs)) : ∃ w ws', ws = w :: ws' ∧ w.1 = keyI p.1 ∧ Dn K G w.2 p.2 ∧ DnK K G ws' kvs := by
  obtain ⟨h1, h2⟩ := h
  cases ws with
  | nil => simp at h1
  | cons w ws =>
    rw [List.map_cons, List.map_cons] at h1
    obtain ⟨a, b⟩ := List.cons.inj h1
    cases h2 with
    | cons c d => exact ⟨w, ws, rfl, a, c, b, d⟩
theorem DnK.inv0 {ws : List (List Key × V)} (h : DnK K G ws []) : ws = [] := by
  have := h.1
  cases ws with
  | nil => rfl
  | cons w ws => simp at this
theorem DnK.len : ∀ {kvs : KVs} {ws : List (List Key × V)}, DnK K G ws kvs → ws.length = kvs.length
  | [], ws, h => by rw [h.inv0]; rfl
  | p :: kvs, ws, h => by
    obtain ⟨w, ws', rfl, _, _, t⟩ := h.inv
    rw [List.length_cons, List.length_cons, t.len]
theorem DnK.mono {G' : Hp} {kvs : KVs} {ws : List (List Key × V)} (h : DnK K G ws kvs) (s : Same G G') : DnK K G' ws kvs := ⟨h.1, h.2.mono s⟩
theorem DnK.val (k : List Int) : ∀ {kvs : KVs} {ws : List (List Key × V)}, DnK K G ws kvs → (valD kvs k = none ∧ valV ws (keyI k) = none) ∨ ∃ x v, valD kvs k = some x ∧ valV ws (keyI k) = some v ∧ Dn K G v x
  | [], ws, h => by rw [h.inv0]; exact .inl ⟨rfl, rfl⟩
  | p :: kvs, ws, h => by
    obtain ⟨w, ws', rfl, e, d, t⟩ := h.inv
    by_cases q : p.1 = k
    · refine .inr ⟨p.2, w.2, by simp [valD, q], ?_, d⟩
      exact valV_pos (by rw [e, q])
    · have q2 : ¬ w.1 = keyI k := fun z => q (keyI_inj (e.symm.trans z))
      have v1 : valD (p :: kvs) k = valD kvs k := by simp [valD, q]
      rw [v1, valV_neg q2]
      exact t.val k
theorem DnK.snoc {k : List Int} {v : V} {x : PyData} (d : Dn K G v x) : ∀ {kvs : KVs} {ws : List (List Key × V)}, DnK K G ws kvs → DnK K G (ws ++ [(keyI k, v)]) (kvs ++ [(k, x)])
  | [], ws, h => by rw [h.inv0]; exact .cons rfl d .nil
  | p :: kvs, ws, h => by
    obtain ⟨w, ws', rfl, e, d', t⟩ := h.inv
    exact .cons e d' (t.snoc d)
theorem DnK.repl {k : List Int} {v : V} {x : PyData} (d : Dn K G v x) : ∀ {kvs : KVs} {ws : List (List Key × V)}, DnK K G ws kvs → DnK K G (ws.map fun w => if w.1 = keyI k then (w.1, v) else w) (kvs.map fun p => if p.1 = k then (p.1, x) else p)
  | [], ws, h => by rw [h.inv0]; exact .nil
  | p :: kvs, ws, h => by
    obtain ⟨w, ws', rfl, e, d', t⟩ := h.inv
    rw [List.map_cons, List.map_cons]
    refine .cons ?_ ?_ (t.repl d)
    · by_cases q : p.1 = k
      · rw [if_pos (by rw [e, q]), if_pos q]; exact e
      · rw [if_neg fun z => q (keyI_inj (e.symm.trans z)), if_neg q]; exact e
    · by_cases q : p.1 = k
      · rw [if_pos (by rw [e, q]), if_pos q]; exact d
      · rw [if_neg fun z => q (keyI_inj (e.symm.trans z)), if_neg q]; exact d'
theorem DnK.any (k : List Int) : ∀ {kvs : KVs} {ws : List (List Key × V)}, DnK K G ws kvs → (ws.any fun w => decide (w.1 = keyI k)) = kvs.any fun p => decide (p.1 = k)
  | [], ws, h => by rw [h.inv0]; rfl
  | p :: kvs, ws, h => by
    obtain ⟨w, ws', rfl, e, _, t⟩ := h.inv
    rw [List.any_cons, List.any_cons, t.any k]
    congr 1
    rw [decide_eq_decide, e]
    exact ⟨keyI_inj, fun q => by rw [q]⟩
theorem DnK.put {k : List Int} {v : V} {x : PyData} {kvs : KVs} {ws : List (List Key × V)} (h : DnK K G ws kvs) (d : Dn K G v x) : DnK K G (putK ws (keyI k) v) (putD kvs k x) := by
  unfold putK putD
  rw [h.any k]
  split
  · exact h.repl d
  · exact h.snoc d
end
def keyOf (x : PyData) (k : List Int → Prop) (_u : Stop k) : Prop := ∃ ns : List Int, x = .tuple (ns.map PyData.int) ∧ ns ≠ [] ∧ k ns
omit [Tb] in
@[simp ↓] theorem keyOf_t (ns : List Int) (k : List Int → Prop) (u : Stop k) : keyOf (.tuple (ns.map PyData.int)) k u = (ns ≠ [] ∧ k ns) :=
  propext ⟨fun ⟨ms, e, h⟩ => by rw [map_int_inj (PyData.tuple.inj e)]; exact h, fun h => ⟨ns, rfl, h⟩⟩
def odC (o : Option Cell) (k : Addr → KVs → Prop) (_u : Stop k) : Prop := ∃ a kvs, o = some (.od a kvs) ∧ k a kvs
omit [Tb] in
@[simp ↓] theorem odC_od (a : Addr) (kvs : KVs) (k : Addr → KVs → Prop) (u : Stop k) : odC (some (.od a kvs)) k u = k a kvs :=
  propext ⟨fun ⟨b, ks, e, h⟩ => by cases e; exact h, fun h => ⟨a, kvs, rfl, h⟩⟩
def isOd (δ : DS) (i : Nat) : Prop := ∃ a kvs, δ[i]? = some (.od a kvs)
section
variable {X : Cx} {e f : Expr} {pos pos' px : Pos} {x : Str} {i : Nat}
def mD : DM := fun δ R => ∀ a, R (.od a []) δ
def wDIn (i : Nat) (w : DE) : DE := fun δ R => w δ fun o δ1 => use o δ1 fun x => keyOf x (fun k => odC δ1[i]? (fun _ kvs => R (.d (.bool (valD kvs k).isSome)) δ1) .mk) .mk
def wDNotIn (i : Nat) (w : DE) : DE := fun δ R => w δ fun o δ1 => use o δ1 fun x => keyOf x (fun k => odC δ1[i]? (fun _ kvs => R (.d (.bool (!(valD kvs k).isSome))) δ1) .mk) .mk
def wDGet (i : Nat) (w : DE) : DE := fun δ R => isOd δ i ∧ w δ fun o δ1 => use o δ1 fun x => keyOf x (fun k => odC δ1[i]? (fun _ kvs => onS (valD kvs k) (fun y => R (.d y) δ1) .mk) .mk) .mk
def wDPut (i : Nat) (wk wv : DE) : DTS := fun E δ => isOd δ i ∧ wv δ fun o δ1 => lk o δ1 fun x δ2 => wk δ2 fun o2 δ3 => use o2 δ3 fun y => keyOf y (fun k => odC δ3[i]? (fun a kvs => kvs.length ≤ 1000000 ∧ E.nx (δ3.set i (.od a (putD kvs k x)))) .mk) .mk
end
omit [Tb] in
@[simp ↓] theorem mD_ap (δ : DS) (R : Cell → DS → Prop) : mD δ R = ∀ a, R (.od a []) δ := rfl
omit [Tb] in
@[simp ↓] theorem wDIn_ap (i : Nat) (w : DE) (δ : DS) (R : Opd → DS → Prop) : wDIn i w δ R = (w δ fun o δ1 => use o δ1 fun x => keyOf x (fun k => odC δ1[i]? (fun _ kvs => R (.d (.bool (valD kvs k).isSome)) δ1) .mk) .mk) := rfl
omit [Tb] in
@[simp ↓] theorem wDNotIn_ap (i : Nat) (w : DE) (δ : DS) (R : Opd → DS → Prop) : wDNotIn i w δ R = (w δ fun o δ1 => use o δ1 fun x => keyOf x (fun k => odC δ1[i]? (fun _ kvs => R (.d (.bool (!(valD kvs k).isSome))) δ1) .mk) .mk) := rfl
omit [Tb] in
@[simp ↓] theorem wDGet_ap (i : Nat) (w : DE) (δ : DS) (R : Opd → DS → Prop) : wDGet i w δ R = (isOd δ i ∧ w δ fun o δ1 => use o δ1 fun x => keyOf x (fun k => odC δ1[i]? (fun _ kvs => onS (valD kvs k) (fun y => R (.d y) δ1) .mk) .mk) .mk) := rfl
omit [Tb] in
@[simp ↓] theorem wDPut_ap (i : Nat) (wk wv : DE) (E : DEnds) (δ : DS) : wDPut i wk wv E δ = (isOd δ i ∧ wv δ fun o δ1 => lk o δ1 fun x δ2 => wk δ2 fun o2 δ3 => use o2 δ3 fun y => keyOf y (fun k => odC δ3[i]? (fun a kvs => kvs.length ≤ 1000000 ∧ E.nx (δ3.set i (.od a (putD kvs k x)))) .mk) .mk) := rfl
omit [Tb] in
@[simp ↓] theorem isOd_od (a : Addr) (kvs : KVs) (δ : DS) (i : Nat) (h : δ[i]? = some (.od a kvs)) : isOd δ i = True := eq_true ⟨a, kvs, h⟩
omit [Tb] in
@[simp ↓] theorem varC_od (a : Addr) (kvs : KVs) (i : Nat) (k : Opd → Prop) (u : Stop k) : varC (some (.od a kvs)) i k u = k (.s i) := rfl
omit [Tb] in
@[simp] theorem sameIo_od (a : Addr) (xs : KVs) (cs : List Cell) (e : Cell) (δ : DS) : sameIo (.od a xs :: cs) (e :: δ) = ((∃ ys, e = .od a ys) ∧ sameIo cs δ) := rfl
omit [Tb] in
@[simp] theorem outC_od (a : Addr) (xs : KVs) (cs : List Cell) (e : Cell) (δ : DS) : outC (.od a xs :: cs) (e :: δ) = e :: outC cs δ := rfl
end DL
set_option Elab.async false
set_option linter.all false
set_option maxRecDepth 100000
set_option maxHeartbeats 4000000
namespace DL
open PySem PySem.Spec PyProof.Rows L2
variable [Tb]
def pLtT : P2 := fun x y R => match x, y with
  | .int i, .int j => R (.bool (decide (i < j)))
  | .tuple xs, .tuple ys => (noOL xs = true ∧ noOL ys = true) ∧ W.alike (.tuple xs) (.tuple ys) = true ∧ (PyData.tuple xs).depth ≤ 50 ∧ R (.bool (W.dataLt (.tuple xs) (.tuple ys)))
  | _, _ => False
section
variable {X : Cx}
end
omit [Tb] in
@[simp ↓] theorem pLtT_ii (i j : Int) (R : PyData → Prop) : pLtT (.int i) (.int j) R = R (.bool (decide (i < j))) := rfl
omit [Tb] in
@[simp ↓] theorem pLtT_tt (xs ys : List PyData) (R : PyData → Prop) : pLtT (.tuple xs) (.tuple ys) R = ((noOL xs = true ∧ noOL ys = true) ∧ W.alike (.tuple xs) (.tuple ys) = true ∧ (PyData.tuple xs).depth ≤ 50 ∧ R (.bool (W.dataLt (.tuple xs) (.tuple ys)))) := rfl
end DL
set_option Elab.async false
set_option linter.all false
set_option maxRecDepth 100000
set_option maxHeartbeats 4000000
namespace DL
open PySem PySem.Spec PyProof.Rows L2
variable [Tb]
section
variable {X : Cx} {e f : Expr} {pos pos' px : Pos} {x : Str} {i : Nat}
end
end DL
set_option Elab.async false
set_option linter.all false
set_option maxRecDepth 100000
set_option maxHeartbeats 4000000
namespace DL
open PySem PySem.Spec PyProof.Rows L2
variable [Tb]
section
variable {P : Program} {w : World} {K : PySem.W.Frag} {mg : Str → Option Value} {base : Heap}
end
end DL
set_option Elab.async false
set_option linter.all false
set_option maxRecDepth 100000
set_option maxHeartbeats 4000000
namespace DL
open PySem PySem.Spec PyProof.Rows L2
variable [Tb]
def wAugS (i : Nat) (wi : DE) (c : Int) : DTS := fun E δ => isOl δ i ∧ wi δ fun oj δ1 => use oj δ1 fun j => asI j (fun jn => olC δ1[i]? (fun a xs => 0 ≤ jn ∧ onS xs[jn.toNat]? (fun x => asI x (fun m => E.nx (δ1.set i (.ol a (xs.set jn.toNat (.int (m + c)))))) .mk) .mk) .mk) .mk
omit [Tb] in
@[simp ↓] theorem wAugS_ap (i : Nat) (wi : DE) (c : Int) (E : DEnds) (δ : DS) : wAugS i wi c E δ = (isOl δ i ∧ wi δ fun oj δ1 => use oj δ1 fun j => asI j (fun jn => olC δ1[i]? (fun a xs => 0 ≤ jn ∧ onS xs[jn.toNat]? (fun x => asI x (fun m => E.nx (δ1.set i (.ol a (xs.set jn.toNat (.int (m + c)))))) .mk) .mk) .mk) .mk) := rfl
section
variable {X : Cx} {e : Expr} {pos px p1 p2 : Pos} {x : Str} {i : Nat}
end
end DL
set_option Elab.async false
set_option linter.all false
set_option maxRecDepth 100000
set_option maxHeartbeats 4000000
namespace DL
open PySem PySem.Spec PyProof.Rows L2 PySem.W PySem.Calls
variable [Tb]
structure ExcInitC (P : Program) (K : PySem.W.Frag) (C fI : Addr) (ps : List Str) : Prop where
  T : OexC K C
  cd : ∃ cdD, clsIn K C = some cdD
  sub : mroIn K C (.ref C) = some true
  opq : nsIn K cStatics "thirdparty.any" = some none
  ini : ks_superIn K C C "__init__" = some (some (.builtin "ValueError.__init__"))
  ve : subIn K (.ref C) (.type "ValueError") = some true
section
variable {prog : Program} {w : World} {A : Around} {E : Value → Shared → Prop} {s : Shared} {K : PySem.W.Frag}
theorem wp_super_init {body : List Stmt} {q : Str} {scope : Scope} {L f cda cc C e t0 : Addr} {fd : FuncData} {ar : Arg} {vs : Array Value} {file : Str} {tf : Tok} {oc ccl cl : Value} {od cdd cld : Option Addr} {osl ccs csl : Array (Option Value)} {p0 p1 p4 : Pos} {ex : Expr} {es : List Expr} {us : List Value} {m mg mb : Str → Option Value} {ps : List Str} {fI : Addr} {whole : Sem Value} {pl : Sem Bool} {Q : Value → Shared → Prop}
    (X : K.In s.heap) (T : ExcInitC prog K C fI ps) (hm : s.heap.Ns L m) (hG : s.heap.Ns mainGlobals mg) (hsm : mg "super" = none) (hB : s.heap.Ns builtinsNs mb) (hsb : mb "super" = some (.type "super"))
    (hf : K.lookup f = some ⟨oc, od, .func fd, osl⟩) (hp : (fd.params.posonlyargs ++ fd.params.args).head? = some ar) (hv : m ar.arg = some (.ref e)) (he : s.heap.get? e = some (HandSPX.excO C t0))
    (hcode : K.lookup cda = some ⟨ccl, cdd, .fields vs, ccs⟩) (hvs : vs[2]? = some (.str file tf)) (hfile : ((prog.main.file : Str) == file) = true)
    (hcell : K.lookup cc = some ⟨cl, cld, .cell (some (.ref C)), csl⟩)
    (hks : scope.names.lookup ("super" : Str) = some .globalImplicit) (hkc : scope.names.lookup ("__class__" : Str) = some .free) (hka : scope.names.lookup ar.arg = some .local) (hk : scope.kind = .function)
    (htop : (prog.main.scope.names.lookup ("super" : Str)).isSome = false) (hus : us.length ≤ 1000) (hst : starEach (ex :: es) (ksEnv q scope L f (.ref cda) cc) = (false, eval ex (ksEnv q scope L f (.ref cda) cc)) :: starEach es (ksEnv q scope L f (.ref cda) cc)) (hpl : (backTo p4 (starEach es (ksEnv q scope L f (.ref cda) cc))).any (·.1) = false)
    (hsp : ∀ (s1 : Shared) (Q : List Value → Shared → Prop), s1.heap.Ns L m → Q us s1 → wpAny (model prog w) A (spliced (backTo p4 (starEach (ex :: es) (ksEnv q scope L f (.ref cda) cc)))) Q E s1)
    (h : ∀ h' t', (∀ b o, b ≠ e → s.heap.get? b = some o → h'.get? b = some o) → (∃ t1, h'.get? e = some (HandSPX.excO C t1)) → Q .none { s with heap := h', toks := t' }) :
    _root_.PySem.wpAt (model prog w) A (.func body (ksEnv q scope L f (.ref cda) cc)) (attributeBase (.Call (.Name "super" p0) [] [] p1) "__init__" (ksEnv q scope L f (.ref cda) cc) whole)
      (fun ov s₁ => wpAny (model prog w) A (getMethod ov "__init__" pl) (fun fx s₂ => wpAny (model prog w) A (callWith p4 fx.1 fx.2 (backTo p4 (starEach (ex :: es) (ksEnv q scope L f (.ref cda) cc))) []) Q E s₂) E s₁) E s := by
  obtain ⟨nm, q', N, bs, bm, sn, sub, ab, col, dd, k0, k1, k2, k3, k5, hC, hbm⟩ := T.T.cls
  obtain ⟨cdD, hD⟩ := T.cd
  obtain ⟨hh, g, d, t, os⟩ := s
  obtain ⟨oD, hD1, hD2⟩ : ∃ oD, hh.get? C = some oD ∧ oD.data = .cls cdD := by
    unfold clsIn at hD
    split at hD
    · rename_i c d cd' sl ho
      cases hD
      exact ⟨_, X _ _ ho, rfl⟩
    · cases hD
  have eC : e ≠ C := fun z => by
    rw [z] at he
    rw [hD1] at he
    cases he
    cases hD2
  have hini := T.ini
  unfold ks_superIn at hini
  rw [hD] at hini
  refine ks_wpAt_super_base (env := ksEnv q scope L f (.ref cda) cc) hks hkc (by decide) rfl (X _ _ hf) rfl hp rfl (X _ _ hcode) rfl hvs hfile htop ?_
  refine ks_loadName_global hk hks (loadGlobal_builtin (env := ksEnv q scope L f (.ref cda) cc) hG hsm hB hsb ⟨rfl, ?_⟩)
  refine wpAny_loadName_free hk hkc rfl ⟨_, X _ _ hcell, rfl⟩ ?_
  refine wpAny_loadName_local hk hka hm hv ?_
  refine ks_wpAny_isType_cls hD1 hD2 ⟨rfl, ?_⟩
  refine ks_wpAny_call_super hD1 hD2 he rfl (fun c e => by cases e) (looks_mroIn X T.sub) (fun h1 e1 k1' => ?_)
  have X1 : K.In h1 := X.keeps k1'
  have he1 := k1' _ _ he
  have I1 : InstAt h1 e (HandSPX.excO C t0) C none := ⟨he1, rfl, rfl, trivial⟩
  refine kxs_getMethod kxs_ValueError e1 (looks_opaque X1 T.opq) (l₀ := cdD.mro) (fun A Q E s k q => wpAny_bind ((looks_clsIn X1 hD) A _ E s k (wpAny_pure q))) rfl X1 hini (I1.type.andThen (looks_subIn X1 T.ve)) eC (by decide) ?_
  have hm1 : h1.Ns L m := hm.keeps k1'
  have kk : ∀ b o, h1.get? b = some o → (h1.push (kxs_mw "ValueError.__init__" e)).get? b = some o := fun b o z => Heap.get?_push_of_some _ z
  have hu : (h1.push (kxs_mw "ValueError.__init__" e)).get? h1.objs.size = some (kxs_mw "ValueError.__init__" e) := Heap.get?_push_at rfl rfl
  rw [hst]
  refine kxs_callWith (i := "ValueError.__init__") (x := e) (by show (false || (backTo p4 (starEach es (ksEnv q scope L f (.ref cda) cc))).any (·.1)) = false; rw [hpl]; rfl) ?_
  refine evalArgs_plain ?_
  rw [hst] at hsp
  refine hsp _ _ (hm1.keeps kk) ⟨hu, ?_⟩
  show wpAny _ _ (call (.ref h1.objs.size) us) _ _ _
  refine wpAny_call (codeAny_of_tree ?_)
  show wpAny _ A.in1 (callAny (.ref h1.objs.size) ⟨us, []⟩) _ _ _
  simp only [callAny]
  refine wpAny_bind (wpAny_load hu ?_)
  simp only [kxs_mw, show (Value.type "method-wrapper" == Value.type "method" || Value.type "method-wrapper" == Value.type "builtin_function_or_method" || Value.type "method-wrapper" == Value.type "method-wrapper") = true by decide, if_true]
  refine KFB.if_so (by decide) ?_
  refine wpAny_bind (check_bound_init (F.excBase_ValueError).toExcCallFacts (kk _ _ (X1 _ _ hC)) (kk _ _ he1) rfl ?_)
  refine wpAny_bind (wpAny_pure (wpAny_pure ?_))
  refine ⟨plainId_quiet (F.excBase_ValueError).init.plain _, codeAny_builtin (F.excBase_ValueError).initEntry ?_⟩
  refine exc_init_tree (cls := .ref C) (t0 := t0) (dv := none) (c2 := .none) (c3 := .none) (b4 := .bool false) (kk _ _ he1) (by rw [sizeLine_eq]; omega) fun h3 k3' e3 _ => ?_
  exact h h3 _ (fun b o hb z => k3' b o hb (kk _ _ (k1' _ _ z))) ⟨_, e3⟩
end
end DL
set_option Elab.async false
set_option linter.all false
set_option maxRecDepth 100000
set_option maxHeartbeats 4000000
namespace DL
open PySem PySem.Spec PyProof.Rows L2 PySem.W PySem.Calls NdefX
variable [Tb]
section
variable {P : Program} {w : World} {K : PySem.W.Frag} {mg : Str → Option Value} {base : Heap}
theorem init_okG {k : Nat} {C fI cda cc : Addr} {name qual file : Str} {tf : Tok} {params : Arguments} {scope : Scope} {N ps : List Str} {sp : Sp} {ar : Arg} {ex : Expr} {es : List Expr} {rest : List Stmt} {p0 p1 p2 p4 p5 : Pos} {oc ct ccl cl doc pm : Value} {an od cdd cld : Option Addr} {osl ccs csl : Array (Option Value)} {cvs : Array Value} {ips : List Str}
    (T : ExcInitC P K C fI ips)
    (lk : K.lookup fI = some ⟨oc, od, .func (fnX name qual params (.Expr (.Call (.Attribute (.Call (.Name "super" p0) [] [] p1) "__init__" p2) (ex :: es) [] p4) p5 :: rest) scope [("__class__", cc)] .none .none doc pm an (.ref cda) ct), osl⟩)
    (hcd : codeIn K (.ref cda) qual = true) (hcode : K.lookup cda = some ⟨ccl, cdd, .fields cvs, ccs⟩) (hvs : cvs[2]? = some (.str file tf)) (hfile : ((P.main.file : Str) == file) = true)
    (hcell : K.lookup cc = some ⟨cl, cld, .cell (some (.ref C)), csl⟩) (hsm : mg "super" = none)
    (S : NScope N ps ["__class__"] scope) (hp : (params.posonlyargs ++ params.args).head? = some ar) (har : ps.head? = some ar.arg) (hnd : ps.Nodup)
    (hks : scope.names.lookup ("super" : Str) = some .globalImplicit) (htop : (P.main.scope.names.lookup ("super" : Str)).isSome = false)
    (hst : ∀ L, starEach (ex :: es) (ksEnv qual scope L fI (.ref cda) cc) = (false, eval ex (ksEnv qual scope L fI (.ref cda) cc)) :: starEach es (ksEnv qual scope L fI (.ref cda) cc))
    (hpl : ∀ L, (backTo p4 (starEach es (ksEnv qual scope L fI (.ref cda) cc))).any (·.1) = false)
    (hargs : ∀ (us : List Value) (A : Around) (L : Addr) (s1 : Shared) (Q : List Value → Shared → Prop) (E : Value → Shared → Prop), us.length = ps.length → s1.heap.Ns L (fun y => (ps.zip us).reverse.lookup y) → Q us.tail s1 → wpAny (model P w) A (spliced (backTo p4 (starEach (ex :: es) (ksEnv qual scope L fI (.ref cda) cc)))) Q E s1)
    (hev : ∀ L, ∃ pl, eval (.Call (.Attribute (.Call (.Name "super" p0) [] [] p1) "__init__" p2) (ex :: es) [] p4) (ksEnv qual scope L fI (.ref cda) cc) = (do
      let ov ← attributeBase (.Call (.Name "super" p0) [] [] p1) "__init__" (ksEnv qual scope L fI (.ref cda) cc) (eval (.Call (.Name "super" p0) [] [] p1) (ksEnv qual scope L fI (.ref cda) cc))
      standAt p2.atName
      let (f, first) ← holding [ov] (getMethod ov "__init__" pl)
      callWith p4 f first (backTo p4 (starEach (ex :: es) (ksEnv qual scope L fI (.ref cda) cc))) []))
    (hsw : ∀ L, swapsWith (.Call (.Attribute (.Call (.Name "super" p0) [] [] p1) "__init__" p2) (ex :: es) [] p4) none p5.line (ksEnv qual scope L fI (.ref cda) cc) = pure false)
    (hin : ∀ L, interactive (ksEnv qual scope L fI (.ref cda) cc) = false)
    (hspl : ∀ vs H Q E, sp vs H Q E → vs.length = ps.length ∧ ps.length ≤ 1000 ∧ ∃ a r, vs = .ref a :: r ∧ H a = some (exo a C none))
    (hrest : ∀ (A : Around) (outer : List Env) (s : Shared) (H : Hp) (vs : List V) (Q : VK) (E : XK), sp vs H Q E →
      ∃ t, PSs (ncx CX0 P w K mg base N ⟨name, qual, params, .Expr (.Call (.Attribute (.Call (.Name "super" p0) [] [] p1) "__init__" p2) (ex :: es) [] p4) p5 :: rest, scope, [("__class__", cc)], cda⟩ fI A outer s H E) rest t ∧ t { nx := fun _ H' => Q .non H', rt := Q } (startF N vs [none]) H) :
    FnOk P w K mg base CX0 (k + 1) fI (fnX name qual params (.Expr (.Call (.Attribute (.Call (.Name "super" p0) [] [] p1) "__init__" p2) (ex :: es) [] p4) p5 :: rest) scope [("__class__", cc)] .none .none doc pm an (.ref cda) ct) ps sp := by
  refine ⟨fun vs H Q E h => (hspl vs H Q E h).1, fun A outer s H args us vs Q E hr e0 hb r hsp => ?_⟩
  obtain ⟨hl, hn, a, rvs, ev, ea⟩ := hspl _ _ _ _ hsp
  have X : K.In s.heap := e0.mod.kin.keeps fun b o e => (e0.bs b o e).1
  have lim : s.heap.NoLimit := e0.mod.nolimit.keeps fun b o e => (e0.bs b o e).1
  have hul : us.length = ps.length := by rw [← r.length]; exact hl
  obtain ⟨t, ht, hq⟩ := hrest A outer s H vs Q E hsp
  obtain ⟨us0, ur, eus, ru0⟩ : ∃ u0 ur, us = u0 :: ur ∧ u0 = Value.ref a := by
    rw [ev] at r
    cases r with
    | @cons _ u0 _ ur ra rw' => exact ⟨u0, ur, rfl, ra⟩
  subst ru0
  refine ks_codeAny_call_defAt hr.depth (X _ _ lk) rfl lim (PySem.W.codeRec_of X hcd) rfl hb S.nocell (fun ⟨n, _⟩ hy => S.par n (List.of_mem_zip hy).1) (fun h₁ hns kp => ?_) S.co S.gen S.kind
  show _root_.PySem.wpAt (model P w) (A.deeper (ksEnv qual scope s.heap.objs.size fI (.ref cda) cc)) (.func _ (ksEnv qual scope s.heap.objs.size fI (.ref cda) cc)) (execs _ (ksEnv qual scope s.heap.objs.size fI (.ref cda) cc)) _ _ _
  have C0 : CellsAt [("__class__", cc)] ["__class__"] [none] s.heap H := by
    obtain ⟨o1, o2⟩ : (∃ o, base.get? cc = some o ∧ o = ⟨cl, cld, .cell (some (.ref C)), csl⟩) ∧ H cc = none := ⟨⟨_, e0.mod.kin _ _ hcell, rfl⟩, (e0.bs _ _ (e0.mod.kin _ _ hcell)).2⟩
    refine ⟨rfl, fun y c e => ?_, fun x y c e1 e2 => ?_, fun i y e => ?_⟩
    · have : c = cc := by
        simp only [List.lookup] at e
        split at e
        · exact (Option.some.inj e).symm
        · cases e
      subst this
      exact ⟨o2, _, _, X _ _ hcell, rfl⟩
    · have key : ∀ {z : Str}, List.lookup z [(("__class__" : Str), cc)] = some c → z = "__class__" := fun {z} e => by
        simp only [List.lookup] at e
        split at e
        · rename_i q; simpa using q
        · cases e
      rw [key e1, key e2]
    · cases i with
      | zero =>
        have : y = "__class__" := by simpa using e.symm
        subst this
        exact ⟨cc, by simp [List.lookup], fun v e => by simp at e⟩
      | succ i => simp at e
  have I : Inv (ncx CX0 P w K mg base N ⟨name, qual, params, .Expr (.Call (.Attribute (.Call (.Name "super" p0) [] [] p1) "__init__" p2) (ex :: es) [] p4) p5 :: rest, scope, [("__class__", cc)], cda⟩ fI A outer s H E) [] (startF N vs [none]) H { s with heap := h₁, toks := s.toks + (ps.zip us).length } := inv_startN S hr.hd e0 hl r C0 hns kp
  obtain ⟨t1, hoe⟩ := exo_at I.hok ea
  obtain ⟨mb, hB, hbs⟩ := e0.mod.blt
  obtain ⟨pl, he⟩ := hev s.heap.objs.size
  refine ks_wpAt_execs_cons (ks_wpAt_Expr_any (ks_wpAt_MethodCall ?_ he) (hin _) (hsw _))
  have kb : ∀ b o, base.get? b = some o → h₁.get? b = some o := fun b o e => kp _ _ (e0.bs b o e).1
  refine wp_super_init (m := fun y => (ps.zip us).reverse.lookup y) (mg := mg) (mb := mb) (us := ur) (e := a) (t0 := t1) (L := s.heap.objs.size) (X.keeps kp) T hns (e0.mod.glob.keeps kb) hsm (hB.keeps kb) (by rw [hbs _ (by decide)]; rfl) lk hp ?_ hoe hcode hvs hfile hcell hks (S.frk _ (by simp)) (S.par _ (List.mem_of_head? har)) S.kind htop (by have : us.length = ps.length := hul; rw [eus] at this; simp at this; omega) (hst _) (hpl _) (fun s1 Q2 hn2 q2 => hargs us _ _ s1 Q2 _ hul hn2 (by rw [eus]; exact q2)) ?_
  · rw [eus]
    cases ps with
    | nil => cases har
    | cons p0' ps' =>
      have : p0' = ar.arg := Option.some.inj har
      subst this
      exact zip_look (i := 0) hnd rfl rfl
  · intro h' t' kk ⟨t2, he'⟩
    refine wpAt_of_wpAny ?_
    have J := I.write (t' := t') (x := a) (e := a) (o := exo a C none) (by rw [ea]; exact True.intro) (.inl rfl) (fun b o e1 e2 => kk b o e1 e2) ⟨_, he'⟩ (exo_ok he')
    have eu : upd H a (exo a C none) = H := by
      funext b
      by_cases hb : b = a
      · rw [hb, upd_same, ea]
      · rw [upd_ne hb]
    rw [eu] at J
    refine wpAny_mono (ht.run [] _ (startF N vs [none]) H _ J hq) (fun fl s' hs => ?_) fun e s' hs => hs
    have fin : ∀ {σ' : L2.St} {H' : Hp} {v : V} {u : Value}, Inv (ncx CX0 P w K mg base N ⟨name, qual, params, .Expr (.Call (.Attribute (.Call (.Name "super" p0) [] [] p1) "__init__" p2) (ex :: es) [] p4) p5 :: rest, scope, [("__class__", cc)], cda⟩ fI A outer s H E) [] σ' H' s' → L2.RelV v u → Q v H' → CE outer P w H s Q u s' :=
      fun {σ' H' v u} J rv q => ⟨v, H', J.os, J.bare, J.base, J.hok, rv, q⟩
    cases fl with
    | ret u =>
      obtain ⟨v, σ', H', J, rv, q⟩ := hs
      exact fin J rv q
    | next =>
      obtain ⟨σ', H', J, q⟩ := hs
      exact fin (v := V.non) (u := Value.none) J rfl q
    | brk =>
      obtain ⟨_, _, _, q⟩ := hs
      exact False.elim q
    | cont =>
      obtain ⟨_, _, _, q⟩ := hs
      exact False.elim q
def spI1 (C : Addr) (x : Str) : Sp := fun vs H Q _ => ∃ (a : Addr) (v : V), vs = [.ref a, v] ∧ H a = some (exo a C none) ∧ ∀ dx, H dx = none → dx ≠ a → Q .non (upd (upd H dx (exd dx [(x, v)])) a (exo a C (some dx)))
structure IniC (P : Program) (K : PySem.W.Frag) (mg : Str → Option Value) (C fI cda cc : Addr) (qual : Str) (params : Arguments) (scope : Scope) (N ps : List Str) (ex : Expr) (es : List Expr) (p0 p1 p2 p4 p5 : Pos) : Prop where
  T : ExcInitC P K C fI []
  hcd : codeIn K (.ref cda) qual = true
  hcode : ∃ ccl cdd cvs ccs file tf, K.lookup cda = some ⟨ccl, cdd, .fields cvs, ccs⟩ ∧ cvs[2]? = some (.str file tf) ∧ ((P.main.file : Str) == file) = true
  hcell : ∃ cl cld csl, K.lookup cc = some ⟨cl, cld, .cell (some (.ref C)), csl⟩
  hsm : mg "super" = none
  S : NScope N ps ["__class__"] scope
  hp : ∃ ar, (params.posonlyargs ++ params.args).head? = some ar ∧ ps.head? = some ar.arg
  hnd : ps.Nodup
  hks : scope.names.lookup ("super" : Str) = some .globalImplicit
  htop : (P.main.scope.names.lookup ("super" : Str)).isSome = false
  hst : ∀ L, starEach (ex :: es) (ksEnv qual scope L fI (.ref cda) cc) = (false, eval ex (ksEnv qual scope L fI (.ref cda) cc)) :: starEach es (ksEnv qual scope L fI (.ref cda) cc)
  hpl : ∀ L, (backTo p4 (starEach es (ksEnv qual scope L fI (.ref cda) cc))).any (·.1) = false
  hev : ∀ L, ∃ pl, eval (.Call (.Attribute (.Call (.Name "super" p0) [] [] p1) "__init__" p2) (ex :: es) [] p4) (ksEnv qual scope L fI (.ref cda) cc) = (do
      let ov ← attributeBase (.Call (.Name "super" p0) [] [] p1) "__init__" (ksEnv qual scope L fI (.ref cda) cc) (eval (.Call (.Name "super" p0) [] [] p1) (ksEnv qual scope L fI (.ref cda) cc))
      standAt p2.atName
      let (f, first) ← holding [ov] (getMethod ov "__init__" pl)
      callWith p4 f first (backTo p4 (starEach (ex :: es) (ksEnv qual scope L fI (.ref cda) cc))) [])
  hsw : ∀ L, swapsWith (.Call (.Attribute (.Call (.Name "super" p0) [] [] p1) "__init__" p2) (ex :: es) [] p4) none p5.line (ksEnv qual scope L fI (.ref cda) cc) = pure false
  hin : ∀ L, interactive (ksEnv qual scope L fI (.ref cda) cc) = false
theorem init_ok1 {k : Nat} {C fI cda cc : Addr} {name qual x : Str} {params : Arguments} {scope : Scope} {p0 p1 p2 p3 p4 p5 q0 q1 q2 q3 : Pos} {oc ct doc pm : Value} {an od : Option Addr} {osl : Array (Option Value)}
    (lk : K.lookup fI = some ⟨oc, od, .func (fnX name qual params [.Expr (.Call (.Attribute (.Call (.Name "super" p0) [] [] p1) "__init__" p2) [.Name x p3] [] p4) p5, .Assign [.Attribute (.Name "self" q0) x q1] (.Name x q2) q3] scope [("__class__", cc)] .none .none doc pm an (.ref cda) ct), osl⟩)
    (I : IniC P K mg C fI cda cc qual params scope ["self", x, "__class__"] ["self", x] (.Name x p3) [] p0 p1 p2 p4 p5) (hf : findIn K (.ref C) x = some none) (hdx : (x == ("__debug__" : Str)) = false) (hdc : (x == ("__classdict__" : Str)) = false)
    (hsw : ∀ env : Env, swapsWith (.Name x q2) (some (.Attribute (.Name "self" q0) x q1)) q3.line env = pure false) :
    FnOk P w K mg base CX0 (k + 1) fI (fnX name qual params [.Expr (.Call (.Attribute (.Call (.Name "super" p0) [] [] p1) "__init__" p2) [.Name x p3] [] p4) p5, .Assign [.Attribute (.Name "self" q0) x q1] (.Name x q2) q3] scope [("__class__", cc)] .none .none doc pm an (.ref cda) ct) ["self", x] (spI1 C x) := by
  obtain ⟨ccl, cdd, cvs, ccs, file, tf, c1, c2, c3⟩ := I.hcode
  obtain ⟨cl, cld, csl, c4⟩ := I.hcell
  obtain ⟨ar, a1, a2⟩ := I.hp
  refine init_okG I.T lk I.hcd c1 c2 c3 c4 I.hsm I.S a1 a2 I.hnd I.hks I.htop I.hst I.hpl (fun us A L s1 Q E hl hns q => ?_) I.hev I.hsw I.hin (fun vs H Q E ⟨a, v, e1, e2, _⟩ => ⟨by rw [e1]; rfl, by simp, a, [v], e1, e2⟩) fun A outer s H vs Q E ⟨a, v, e1, e2, q⟩ => ?_
  · match us, hl with
    | [u0, u1], _ =>
      have nd : x ≠ "self" := fun e => by
        have := I.hnd
        rw [e] at this
        simp at this
      refine PyProof.Rows.spliced_more ?_
      refine wpAny_Name (wpAny_loadName_local I.S.kind (I.S.par x (by simp)) hns (zip_look (i := 1) I.hnd rfl rfl) ?_) hdx
      exact spliced_none q
  · refine ⟨_, pss_one (ps_ost (pe_var (i := 0) rfl (.inl (I.S.par "self" (by simp)))) (pe_var (i := 1) rfl (.inl (I.S.par x (by simp))) hdx hdc) (hsw _)), ?_⟩
    subst e1
    refine ⟨v, rfl, .ref a, rfl, a, C, rfl, I.T.T, hf, .inl ⟨e2, fun dx n1 n2 => q dx n1 n2⟩⟩
end
end DL
set_option Elab.async false
set_option linter.all false
set_option maxRecDepth 100000
set_option maxHeartbeats 4000000
namespace DL
open PySem PySem.Spec PyProof.Rows L2
variable [Tb]
abbrev XNames := List (Str × Addr)
def ExcR (K : PySem.W.Frag) (TL : XNames) (G : Hp) (cls : Value) (d : Option Addr) (x : PyData) : Prop := ExcAt K G cls d x ∧ ∃ n C, (n, C) ∈ TL ∧ cls = .ref C
def wxOf (K : PySem.W.Frag) (TL : XNames) (B G : Hp) (rt : PyData → DS → Prop) : WX := fun cls d σ H => ∃ G' δ' x, rt x δ' ∧ Same G G' ∧ Rel K B G' δ' σ H ∧ ExcR K TL G' cls d x
theorem wx_mono {K : PySem.W.Frag} {TL : XNames} {B G G' : Hp} {rt : PyData → DS → Prop} (s : Same G G') : ∀ c d σ H, wxOf K TL B G' rt c d σ H → wxOf K TL B G rt c d σ H := fun c d σ H ⟨G2, δ', x, h1, h2, h3, h4⟩ => ⟨G2, δ', x, h1, s.trans h2, h3, h4⟩
structure EndsX (X : Cx) (TL : XNames) (B G : Hp) (E : DEnds) (D : Ends) : Prop extends EndsOk X.K B G E D where
  tk : L2N.Takes X (wxOf X.K TL B G E.rt)
theorem EndsX.mono {X : Cx} {TL : XNames} {B G G' : Hp} {E : DEnds} {D : Ends} (h : EndsX X TL B G E D) (s : Same G G') : EndsX X TL B G' E D := ⟨h.toEndsOk.mono s, h.tk.imp (wx_mono s)⟩
def upSX (X : Cx) (TL : XNames) (w : DTS) : TS := fun D σ H => ∃ B G δ E, Rel X.K B G δ σ H ∧ w E δ ∧ EndsX X TL B G E D
abbrev JSX (X : Cx) (TL : XNames) (st : Stmt) (w : DTS) : Prop := PS X st (upSX X TL w)
abbrev JSsX (X : Cx) (TL : XNames) (st : List Stmt) (w : DTS) : Prop := PSs X st (upSX X TL w)
abbrev DEX := DS → (Opd → DS → Prop) → (PyData → DS → Prop) → Prop
abbrev DAX := DS → (List Opd → DS → Prop) → (PyData → DS → Prop) → Prop
def upX (X : Cx) (TL : XNames) (w : DEX) : TE := fun σ H Q => ∃ B G δ R Z, Rel X.K B G δ σ H ∧ w δ R Z ∧ (∀ v H' G' o δ', R o δ' → Same G G' → Rel X.K B G' δ' σ H' → OpdOk X.K G' σ v o → Q v H') ∧ L2N.Takes X (wxOf X.K TL B G Z)
def upAX (X : Cx) (TL : XNames) (w : DAX) : TA := fun σ H Q => ∃ B G δ R Z, Rel X.K B G δ σ H ∧ w δ R Z ∧ (∀ vs H' G' os δ', R os δ' → Same G G' → Rel X.K B G' δ' σ H' → OpdsOk X.K G' σ vs os → Q vs H') ∧ L2N.Takes X (wxOf X.K TL B G Z)
abbrev JEX (X : Cx) (TL : XNames) (e : Expr) (w : DEX) : Prop := PE X e (upX X TL w)
abbrev JAX (X : Cx) (TL : XNames) (es : List Expr) (w : DAX) : Prop := PA X es (upAX X TL w)
section
variable {X : Cx} {TL : XNames} {st : Stmt} {rest es : List Stmt} {e : Expr} {pos : Pos}
theorem jsx_of {w : DTS} (h : JS X st w) : JSX X TL st w := ps_le h fun pins s σ H D I ⟨B, G, δ, E, rel, hw, k⟩ => ⟨B, G, δ, E, rel, hw, k.toEndsOk⟩
theorem jssx_of {w : DTS} (h : JSs X rest w) : JSsX X TL rest w := pss_le h fun pins s σ H D I ⟨B, G, δ, E, rel, hw, k⟩ => ⟨B, G, δ, E, rel, hw, k.toEndsOk⟩
theorem jssx_cons {t u : DTS} (h1 : JSX X TL st t) (h2 : JSsX X TL rest u) : JSsX X TL (st :: rest) (wSeq t u) := pss_le (pss_cons h1 h2) fun pins s σ H D I ⟨B, G, δ, E, rel, hw, k⟩ =>
  ⟨B, G, δ, _, rel, hw, ⟨fun σ' H' G' δ' r s1 rel1 => ⟨B, G', δ', E, rel1, r, k.mono s1⟩, k.rt, k.bk, k.ct⟩, k.tk⟩
theorem jssx_one {t : DTS} (h : JSX X TL st t) : JSsX X TL [st] t := pss_one h
theorem jsx_if {c : Expr} {p q : List Stmt} {tc : DT} {t u : DTS} (hc : JT X c tc) (hp : JSsX X TL p t) (hq : JSsX X TL q u) : JSX X TL (.If c p q pos) (wIf tc t u) := ps_le (ps_if hc hp hq) fun pins s σ H D I ⟨B, G, δ, E, rel, hw, k⟩ => ⟨B, G, δ, _, rel, hw, fun b H1 G1 δ1 r1 s1 rel1 => by
  cases b with
  | true => rw [if_pos rfl] at r1 ⊢; exact ⟨B, G1, δ1, E, rel1, r1, k.mono s1⟩
  | false => rw [if_neg Bool.false_ne_true] at r1 ⊢; exact ⟨B, G1, δ1, E, rel1, r1, k.mono s1⟩⟩
theorem jsx_while {c : Expr} {body : List Stmt} {tc : DT} {b : DTS} (hp : PassesOwn (model X.prog X.w) X.A X.env X.xe) (hc : JT X c tc) (hb : JSsX X TL body b) : JSX X TL (.While c body [] pos) (wWhile tc b) := ps_le (ps_while hp hc hb) fun pins s σ H D I ⟨B, G, δ, E, rel, ⟨W, ⟨m0, w0⟩, turn⟩, k⟩ => by
  refine ⟨fun m σ' H' => ∃ G2 δ2, Same G G2 ∧ Rel X.K B G2 δ2 σ' H' ∧ W m δ2, ⟨m0, G, δ, Same.refl _, rel, w0⟩, ?_⟩
  rintro m σ2 H2 ⟨G2, δ2, s2, rel2, q⟩
  refine ⟨B, G2, δ2, _, rel2, turn m δ2 q, fun kb H3 G3 δ3 r3 s3 rel3 => ?_⟩
  cases kb with
  | false => rw [if_neg Bool.false_ne_true] at r3 ⊢; exact k.nx σ2 H3 G3 δ3 r3 (s2.trans s3) rel3
  | true =>
    rw [if_pos rfl] at r3 ⊢
    have sa := s2.trans s3
    refine ⟨fun σ' H' => ∃ G4 δ4, Same G G4 ∧ Rel X.K B G4 δ4 σ' H' ∧ ∃ m', m' < m ∧ W m' δ4, fun σ' H' ⟨G4, δ4, s4, rel4, m', hm, w4⟩ => ⟨m', hm, G4, δ4, s4, rel4, w4⟩, B, G3, δ3, _, rel3, r3, ?_⟩
    exact ⟨⟨fun σ' H' G5 δ5 r5 s5 rel5 => ⟨G5, δ5, sa.trans s5, rel5, r5⟩, fun v σ' H' G5 x5 δ5 r5 s5 rel5 d5 => k.rt v σ' H' G5 x5 δ5 r5 (sa.trans s5) rel5 d5, fun σ' H' G5 δ5 r5 s5 rel5 => k.nx σ' H' G5 δ5 r5 (sa.trans s5) rel5, fun σ' H' G5 δ5 r5 s5 rel5 => ⟨G5, δ5, sa.trans s5, rel5, r5⟩⟩, k.tk.imp (wx_mono sa)⟩
theorem jex_of {w : DE} (h : JE X e w) : JEX X TL e (fun δ R _ => w δ R) := pe_le h fun pins s σ H Q I ⟨B, G, δ, R, Z, rel, hw, k, tk⟩ => ⟨B, G, δ, R, rel, hw, k⟩
theorem takes_no : L2N.Takes X (fun _ _ _ _ => False) := fun _ _ ⟨_, _, _, _, _, _, _, _, _, _, _, _, _, _, _, _, w⟩ => w.elim
theorem je_ofX {w : DEX} (h : JEX X TL e w) : JE X e (fun δ R => w δ R fun _ _ => False) := pe_le h fun pins s σ H Q I ⟨B, G, δ, R, rel, hw, k⟩ => ⟨B, G, δ, R, _, rel, hw, k, takes_no.imp fun c d σ H ⟨_, _, _, q, _⟩ => q⟩
def axNil : DAX := fun δ R _ => R [] δ
def axCons (w : DEX) (r : DAX) : DAX := fun δ R Z => w δ (fun o δ1 => r δ1 (fun os δ2 => R (o :: os) δ2) Z) Z
theorem jax_nil : JAX X TL [] axNil := pa_le pa_nil fun pins s σ H Q I ⟨B, G, δ, R, Z, rel, hw, k, tk⟩ => k [] H G [] δ hw (Same.refl _) rel .nil
theorem jax_cons {e : Expr} {es : List Expr} {w : DEX} {r : DAX} (ha : JEX X TL e w) (hr : JAX X TL es r) (hs : starEach (e :: es) X.env = (false, eval e X.env) :: starEach es X.env := by rfl) : JAX X TL (e :: es) (axCons w r) :=
  pa_le (pa_cons ha hr hs) fun pins s σ H Q I ⟨B, G, δ, R, Z, rel, hw, k, tk⟩ =>
    ⟨B, G, δ, _, Z, rel, hw, fun v H1 G1 o δ1 r1 s1 rel1 ok1 => ⟨B, G1, δ1, _, Z, rel1, r1, fun vs H2 G2 os δ2 r2 s2 rel2 ok2 => k (v :: vs) H2 G2 _ _ r2 (s1.trans s2) rel2 (.cons (ok1.mono s2) ok2), tk.imp (wx_mono s1)⟩, tk⟩
def wTupX (w : DAX) : DEX := fun δ R Z => w δ (fun os δ1 => lkL os δ1 fun xs δ2 => xs.length ≤ 1000 ∧ R (.d (.tuple xs)) δ2) Z
def wLstX (w : DAX) : DEX := fun δ R Z => w δ (fun os δ1 => lkL os δ1 fun xs δ2 => xs.length ≤ 1000 ∧ R (.d (.list xs)) δ2) Z
theorem jex_lst {es : List Expr} {w : DAX} (h : JAX X TL es w) : JEX X TL (.List es pos) (wLstX w) :=
  pe_le (pe_lst h) fun pins s σ H Q I ⟨B, G, δ, R, Z, rel, hw, k, tk⟩ => ⟨B, G, δ, _, Z, rel, hw, fun vs H1 G1 os δ1 r1 s1 rel1 ok1 => by
    obtain ⟨G2, δ2, xs, ⟨hl, q⟩, s2, rel2, t⟩ := lkL_ok rel1 ok1 r1
    refine ⟨by rw [t.len]; exact le_line hl, fun p np => ?_⟩
    obtain ⟨rel3, s3⟩ := rel2.laid (o := .lst vs) np
    exact k _ _ _ _ _ q (s1.trans (s2.trans s3)) rel3 (Dn.lst upd_same (t.mono s3)), tk⟩
def wRetX (w : DEX) : DTS := fun E δ => w δ (fun o δ1 => lk o δ1 fun x δ2 => E.rt x δ2) E.rt
theorem jsx_ret {w : DEX} (h : JEX X TL e w) : JSX X TL (.Return (some e) pos) (wRetX w) := ps_le (ps_ret h) fun pins s σ H D I ⟨B, G, δ, E, rel, hw, k⟩ => ⟨B, G, δ, _, E.rt, rel, hw, fun v H1 G1 o δ1 r1 s1 rel1 ok1 => by
  obtain ⟨G2, δ2, x, q, s2, rel2, dn⟩ := lk_ok rel1 ok1 r1
  exact k.rt v σ H1 G2 x δ2 q (s1.trans s2) rel2 dn, k.tk⟩
def wDropX (w : DEX) : DTS := fun E δ => w δ (fun _ δ1 => E.nx δ1) E.rt
theorem jsx_expr {w : DEX} (h : JEX X TL e w) (hs : swapsWith e none pos.line X.env = pure false := by rfl) : JSX X TL (.Expr e pos) (wDropX w) := ps_le (ps_expr h hs) fun pins s σ H D I ⟨B, G, δ, E, rel, hw, k⟩ => ⟨B, G, δ, _, E.rt, rel, hw, fun v H1 G1 o δ1 r1 s1 rel1 ok1 => k.nx σ H1 G1 δ1 r1 s1 rel1, k.tk⟩
def wSetX (i : Nat) (w : DEX) : DTS := fun E δ => w δ (fun o δ1 => lk o δ1 fun x δ2 => E.nx (δ2.set i (.d x))) E.rt
theorem jsx_set {i : Nat} {x : Str} {w : DEX} {pos' : Pos} (hN : X.N.Nodup) (hi : X.N[i]? = some x) (hx : Loc X.env.scope x) (he : JEX X TL e w) (hs : swapsWith e (some (.Name x pos')) pos.line X.env = pure false := by rfl) (hf : X.fn x = true ∨ X.env.scope.names.lookup x = some .local := by first | exact .inl rfl | exact .inr rfl | assumption) :
    JSX X TL (.Assign [.Name x pos'] e pos) (wSetX i w) := ps_le (ps_set hN hi hx he hs hf) fun pins s σ H D I ⟨B, G, δ, E, rel, hw, k⟩ => ⟨B, G, δ, _, E.rt, rel, hw, fun v H1 G1 o δ1 r1 s1 rel1 ok1 => by
  obtain ⟨G2, δ2, y, q, s2, rel2, dn⟩ := lk_ok rel1 ok1 r1
  exact k.nx _ H1 G2 _ q (s1.trans s2) (rel2.set (c := .d y) ⟨v, rfl, dn⟩ fun a m => nomatch m), k.tk⟩
def wAsgGX (w : DEX) (g : DTG) : DTS := fun E δ => w δ (fun o δ1 => lk o δ1 fun x δ2 => g x δ2 E.nx) E.rt
theorem jsx_asgG {tg : Expr} {w : DEX} {ts : List Nat} {g : DTG} (he : JEX X TL e w) (hg : JG X tg ts g) (hs : swapsWithSole [tg] e pos.line X.env = pure false := by rfl) (hw : swappedStores [tg] e X.env = pure none := by rfl) (h1 : (assignEach [tg] X.env).map (·.2) = [assign tg X.env] := by rfl) : JSX X TL (.Assign [tg] e pos) (wAsgGX w g) :=
  ps_le (ps_asg he hg hs hw h1) fun pins s σ H D I ⟨B, G, δ, E, rel, hw, k⟩ => ⟨B, G, δ, _, E.rt, rel, hw, fun v H1 G1 o δ1 r1 s1 rel1 ok1 => by
    obtain ⟨G2, δ2, x, q, s2, rel2, dn⟩ := lk_ok rel1 ok1 r1
    exact ⟨B, G2, δ2, x, _, rel2, dn, q, fun σ' H' G' δ' r' s' rel' _ => k.nx _ _ _ _ r' (s1.trans (s2.trans s')) rel'⟩, k.tk⟩
def wIfEX (t : DT) (wa wb : DEX) : DEX := fun δ R Z => t δ fun k δ1 => if k = true then wa δ1 R Z else wb δ1 R Z
abbrev DMk := DS → (PyData → DS → Prop) → Prop
def upMk (K : PySem.W.Frag) (TL : XNames) (w : DMk) : L2.St → Hp → XK → Prop := fun σ H Q => ∃ B G δ Z, Rel K B G δ σ H ∧ w δ Z ∧ ∀ cls d H' G' x δ', Z x δ' → Same G G' → Rel K B G' δ' σ H' → ExcR K TL G' cls d x → Q cls d H'
abbrev JMk (X : Cx) (TL : XNames) (e : Expr) (w : DMk) : Prop := L2N.PMk X e (upMk X.K TL w)
def wRaise (w : DMk) : DTS := fun E δ => w δ E.rt
theorem jsx_raise {w : DMk} (hc : X.calm = true) (he : JMk X TL e w) : JSX X TL (.Raise (some e) none pos) (wRaise w) := ⟨fun pins s σ H D I ⟨B, G, δ, E, rel, hw, k⟩ => (L2N.ps_raise hc k.tk he).run pins s σ H D I
  ⟨B, G, δ, E.rt, rel, hw, fun cls d H' G' x δ' z s1 rel1 ex => ⟨G', δ', x, z, s1, rel1, ex⟩⟩⟩
theorem class_makes {CX : CXT} {C fI : Addr} {k : Nat} {fd : FuncData} {ps : List Str} {sp : Sp} {ds us : List Value} {dvs vs : List V} {pins : List (Addr × Obj)} {σ : L2.St} {H : Hp} {s : Shared} {Q : XK} (T : OexC X.K C)
    (init : PySem.W.findIn X.K (.ref C) "__init__" = some (some (.ref fI))) (isFn : PySem.W.typeIn X.K (.ref fI) = some (.type "function")) (F1 : FnOk X.prog X.w X.K X.mg X.base CX k fI fd ps sp) (room : Room (k + 1) X.A) (binds : Binds X.K fd ps ds) (given : Vals dvs ds)
    (none' : Passes CX X (fun _ _ _ => False)) (I : Inv X pins σ H s) (r : Vals vs us) (few : vs.length ≤ 1000)
    (ask : ∀ a, H a = none → sp (.ref a :: (vs ++ dvs)) (upd H a (exo a C none)) (fun v H2 => v = .non ∧ ∃ (d : Addr) (fs : List (Str × V)), H2 a = some (exo a C (some d)) ∧ H2 d = some (exd d fs) ∧ H d = none ∧ Q (.ref C) (some d) (upd (L2.del H2 a) d (.xd fs))) fun _ _ _ => False) :
    wpAny (model X.prog X.w) X.A (call (.ref C) us) (L2N.MkP X pins σ Q) X.xe s := by
  obtain ⟨hp, gs, dr, tk, os⟩ := s
  obtain ⟨nm, q0, N, bs, bm, sn, sub, ab, col, dd, k0, k1, k2, k3, k5, at_C, refs⟩ := T.cls
  generalize ea : hp.objs.size + 1 = a
  have above : hp.objs.size ≤ a := ea ▸ Nat.le_succ _
  have free : H a = none := I.hok.fresh above
  have kept : ∀ b o, hp.get? b = some o → ((hp.push (PySem.W.kdv_tup us)).push (PySem.HandSPX.excO C hp.objs.size)).get? b = some o := fun _ _ e => Heap.get?_push_of_some _ (Heap.get?_push_of_some _ e)
  have J := I.laid (t' := tk) (a := a) (o := exo a C none) kept above (exo_ok (by subst ea; heap_get))
  have args : Vals (V.ref a :: (vs ++ dvs)) (Value.ref a :: (us ++ ds)) := .cons rfl (r.append given)
  have many : (Value.ref a :: us ++ ds).length = ps.length := args.length.symm.trans (F1.len _ _ _ _ (ask a free))
  have small : us.length ≤ sizeLine := r.length ▸ Nat.le_trans few (by decide)
  have run := F1.run _ X.stack _ _ ⟨Value.ref a :: us, []⟩ _ _ _ (fun _ _ _ => False) (room.make C us []) (J.env0.make C us []) (binds _ (Value.ref a :: us) J.kIn many) args (ask a free)
  subst ea
  refine wpAny_call (PySem.HandSPX.call_own F.excBase_ValueError (PySem.HandSPX.refsVE_contains · bm refs) (I.kIn _ _ at_C) (PySem.W.looks_findIn I.kIn init) (PySem.W.bind_fn I.kIn · isFn) small (codeAny_mono run ?_))
  rintro (e | _ | _ | _ | u) ⟨h2, g2, d2, t2, os2⟩ back <;> first | exact none' pins σ _ _ e _ J back | exact False.elim back | skip
  obtain ⟨_, H2, same, bare, un, ok, rv, rfl, d, fs, inst, dict, new, q⟩ := back
  obtain ⟨t0, G, K', old, gone, rec', out⟩ := mk_end0 (d2 := d2) (t2 := t2) I above kept un ok same bare inst dict new
  exact ⟨rv, _, _, _, ⟨G, g2, d2, t2, os2⟩, _, .ref C, some d, rfl, K', old, gone, rec', ⟨rfl, rfl, fun _ e => by cases e; rfl⟩, rfl, rfl, out, rfl, bare, raises_own T.exC T.tyC, q⟩
theorem pmk_class {CX : CXT} {x : Str} {e : Expr} {es : List Expr} {ta : TA} {p pos : Pos} {C fI : Addr} {k : Nat} {fd : FuncData} {ps : List Str} {sp : Sp} (T : OexC X.K C) (init : PySem.W.findIn X.K (.ref C) "__init__" = some (some (.ref fI))) (isFn : PySem.W.typeIn X.K (.ref fI) = some (.type "function"))
    (F : FnOk X.prog X.w X.K X.mg X.base CX k fI fd ps sp) (room : Room (k + 1) X.A) (binds : Binds X.K fd ps []) (none' : Passes CX X (fun _ _ _ => False)) (hg : Gl X x) (hm : X.mg x = some (.ref C)) (ha : PA X (e :: es) ta) (hdb : (x == ("__debug__" : Str)) = false)
    (he : starEach (e :: es) X.env = (false, eval e X.env) :: starEach es X.env) (hpl : (backTo pos (starEach es X.env)).any (·.1) = false) : L2N.PMk X (.Call (.Name x p) (e :: es) [] pos) (tMkO C sp [] ta) := fun pins s σ H Q I h =>
  wpAny_Call_Name_kw (ld_glob I hg hm (PySem.W.callWith_K (h₀ := X.base) I.ok.mod.kin T.kC (wpAny_mono (ha.run pos pins s σ H _ I h) (fun us _ ⟨_, _, I1, r, few, ask⟩ => ⟨I1.kIn, class_makes T init isFn F room binds .nil none' I1 r few ask⟩) fun _ _ z => z) he hpl) hdb)
def wMk1 (n f : Str) (w : DA) : DMk := fun δ Z => w δ fun os δ1 => lkL os δ1 fun xs δ2 => ∃ x, xs = [x] ∧ Z (excD n [(f, x)]) δ2
theorem jmk1 {x n f : Str} {e : Expr} {es : List Expr} {wa : DA} {p pos : Pos} {C fI : Addr} {k : Nat} {fd : FuncData} {ps : List Str} (hT : (n, C) ∈ TL) (hn : (PySem.W.clsIn X.K C).map (·.name) = some n) (T : OexC X.K C) (iC : PySem.W.findIn X.K (.ref C) "__init__" = some (some (.ref fI))) (tI : PySem.W.typeIn X.K (.ref fI) = some (.type "function"))
    (F1 : FnOk X.prog X.w X.K X.mg X.base CX0 k fI fd ps (spI1 C f)) (hr : Room (k + 1) X.A) (hb : Binds X.K fd ps []) (hg : Gl X x) (hm : X.mg x = some (.ref C)) (ha : JA X (e :: es) wa) (hdb : (x == ("__debug__" : Str)) = false := by decide)
    (he : starEach (e :: es) X.env = (false, eval e X.env) :: starEach es X.env := by rfl) (hpl : (backTo pos (starEach es X.env)).any (·.1) = false := by rfl) :
    JMk X TL (.Call (.Name x p) (e :: es) [] pos) (wMk1 n f wa) := fun pins s σ H Q I ⟨B, G, δ, Z, rel, hw, k⟩ => pmk_class T iC tI F1 hr hb pass0 hg hm ha hdb he hpl pins s σ H Q I ⟨B, G, δ, _, rel, hw, fun vs H1 G1 os δ1 r1 s1 rel1 ok1 => by
  obtain ⟨G2, δ2, xs, ⟨y, rfl, q⟩, s2, rel2, t⟩ := lkL_ok rel1 ok1 r1
  obtain ⟨v, rfl, dv⟩ := t.one
  refine ⟨by simp, fun a na => ⟨a, v, rfl, upd_same, fun dx n1 n2 => ⟨rfl, dx, [(f, v)], upd_same, by rw [upd_ne n2, upd_same], by rw [upd_ne n2] at n1; exact n1, ?_⟩⟩⟩
  have n1' : H1 dx = none := by rw [upd_ne n2] at n1; exact n1
  have eh : upd (L2.del (upd (upd (upd H1 a (exo a C none)) dx (exd dx [(f, v)])) a (exo a C (some dx))) a) dx (.xd [(f, v)]) = upd H1 dx (.xd [(f, v)]) := by
    funext b
    by_cases h1 : b = dx
    · rw [h1, upd_same, upd_same]
    · rw [upd_ne h1, upd_ne h1]
      by_cases h2 : b = a
      · rw [h2, L2.del_same, na]
      · rw [L2.del_ne h2, upd_ne h2, upd_ne h1, upd_ne h2]
  rw [eh]
  obtain ⟨rel3, s3⟩ := rel2.laid (o := .xd [(f, v)]) n1'
  exact k _ _ _ _ _ _ q (s1.trans (s2.trans s3)) rel3 ⟨⟨n, C, [(f, y)], rfl, rfl, hn, .inl ⟨dx, _, rfl, upd_same, rfl, .cons (dv.mono s3) .nil⟩⟩, n, C, hT, rfl⟩⟩
def wMk2 (n f g : Str) (w : DA) : DMk := fun δ Z => w δ fun os δ1 => lkL os δ1 fun xs δ2 => ∃ x y, xs = [x, y] ∧ Z (excD n [(g, y), (f, x)]) δ2
end
end DL
set_option Elab.async false
set_option linter.all false
set_option maxRecDepth 100000
set_option maxHeartbeats 4000000
namespace DL
open PySem PySem.Spec PyProof.Rows L2
variable [Tb]
def notX (x : PyData) : Prop := ∀ n fs, x ≠ excD n fs
def onX (x : PyData) (k : PyData → Prop) (kx : Str → List (Str × PyData) → Prop) (_u : Stop (k, kx)) : Prop := (∀ n fs, x = excD n fs → kx n fs) ∧ (notX x → k x)
theorem excD_inj {n m : Str} {fs gs : List (Str × PyData)} (h : excD n fs = excD m gs) : n = m ∧ fs = gs := by
  unfold excD at h
  simp only [PyData.dict.injEq, List.cons.injEq, Prod.mk.injEq, PyData.str.injEq, and_true] at h
  obtain ⟨h1, h2⟩ := h
  refine ⟨h1, ?_⟩
  refine (List.map_inj_right ?_).mp h2
  rintro ⟨a, b⟩ ⟨c, d⟩ e
  simp only [Prod.mk.injEq, PyData.str.injEq] at e
  exact Prod.ext e.1 e.2
theorem onX_yes {n : Str} {fs : List (Str × PyData)} {k : PyData → Prop} {kx : Str → List (Str × PyData) → Prop} {u : Stop (k, kx)} (h : onX (excD n fs) k kx u) : kx n fs := h.1 n fs rfl
theorem onX_no {x : PyData} {k : PyData → Prop} {kx : Str → List (Str × PyData) → Prop} {u : Stop (k, kx)} (h : onX x k kx u) (hn : notX x) : k x := h.2 hn
omit [Tb] in
@[simp ↓] theorem onX_exc (n : Str) (fs : List (Str × PyData)) (k : PyData → Prop) (kx : Str → List (Str × PyData) → Prop) (u : Stop (k, kx)) : onX (excD n fs) k kx u = kx n fs := propext ⟨onX_yes, fun h => ⟨fun m gs e => by
  obtain ⟨rfl, rfl⟩ := excD_inj e
  exact h, fun hn => absurd rfl (hn n fs)⟩⟩
theorem onX_of {x : PyData} {k : PyData → Prop} {kx : Str → List (Str × PyData) → Prop} {u : Stop (k, kx)} (hn : notX x) : onX x k kx u = k x := propext ⟨fun h => h.2 hn, fun h => ⟨fun n fs e => absurd e (hn n fs), fun _ => h⟩⟩
theorem notX_tup (xs : List PyData) : notX (.tuple xs) := fun n fs e => by cases e
theorem notX_list (xs : List PyData) : notX (.list xs) := fun n fs e => by cases e
theorem notX_int (i : Int) : notX (.int i) := fun n fs e => by cases e
theorem notX_bool (i : Bool) : notX (.bool i) := fun n fs e => by cases e
theorem notX_str (i : Str) : notX (.str i) := fun n fs e => by cases e
theorem notX_none : notX .none := fun n fs e => by cases e
omit [Tb] in
@[simp ↓] theorem onX_tup (xs : List PyData) (k : PyData → Prop) (kx : Str → List (Str × PyData) → Prop) (u : Stop (k, kx)) : onX (.tuple xs) k kx u = k (.tuple xs) := onX_of (notX_tup xs)
omit [Tb] in
@[simp ↓] theorem onX_list (xs : List PyData) (k : PyData → Prop) (kx : Str → List (Str × PyData) → Prop) (u : Stop (k, kx)) : onX (.list xs) k kx u = k (.list xs) := onX_of (notX_list xs)
omit [Tb] in
@[simp ↓] theorem onX_int (i : Int) (k : PyData → Prop) (kx : Str → List (Str × PyData) → Prop) (u : Stop (k, kx)) : onX (.int i) k kx u = k (.int i) := onX_of (notX_int i)
omit [Tb] in
@[simp ↓] theorem onX_bool (i : Bool) (k : PyData → Prop) (kx : Str → List (Str × PyData) → Prop) (u : Stop (k, kx)) : onX (.bool i) k kx u = k (.bool i) := onX_of (notX_bool i)
omit [Tb] in
@[simp ↓] theorem onX_str (i : Str) (k : PyData → Prop) (kx : Str → List (Str × PyData) → Prop) (u : Stop (k, kx)) : onX (.str i) k kx u = k (.str i) := onX_of (notX_str i)
omit [Tb] in
@[simp ↓] theorem onX_none (k : PyData → Prop) (kx : Str → List (Str × PyData) → Prop) (u : Stop (k, kx)) : onX .none k kx u = k .none := onX_of notX_none
omit [Tb] in
@[simp] theorem notX_tup' (xs : List PyData) : notX (.tuple xs) = True := eq_true (notX_tup xs)
omit [Tb] in
@[simp] theorem notX_list' (xs : List PyData) : notX (.list xs) = True := eq_true (notX_list xs)
omit [Tb] in
@[simp] theorem notX_int' (xs : Int) : notX (.int xs) = True := eq_true (notX_int xs)
omit [Tb] in
@[simp] theorem notX_bool' (xs : Bool) : notX (.bool xs) = True := eq_true (notX_bool xs)
omit [Tb] in
@[simp] theorem notX_str' (xs : Str) : notX (.str xs) = True := eq_true (notX_str xs)
omit [Tb] in
@[simp] theorem notX_none' : notX .none = True := eq_true notX_none
def liftSpX (K : PySem.W.Frag) (TL : XNames) (sp : DSp) : Sp := fun vs H Q E => ∃ B G cs R, Rel K B G cs (vs.map some) H ∧ sp cs R ∧ (∀ v H' G' x cs', R x cs' → Same G G' → Rel K B G' cs' (vs.map some) H' → Dn K G' v x → Q v H') ∧
  ∀ cls d H' G' x cs', R x cs' → Same G G' → Rel K B G' cs' (vs.map some) H' → ExcR K TL G' cls d x → E cls d H'
section
variable {P : Program} {w : World} {K : PySem.W.Frag} {mg : Str → Option Value} {base : Heap}
theorem okX {x qual : Str} {st : Stmt} {f : Addr} {fd : FuncData} {N ps : List Str} {k : Nat} {sp : DSp} {wb : DTS} {TL : XNames} (F : Fun K x qual st f fd) (S : FnScope N ps (defScope st)) (dl : ∀ cs R, sp cs R → cs.length = ps.length)
    (body : ∀ (cdv : Value) (A : Around) (outer : List Env) (s : Shared) (H : Hp) (E : XK), RoomG k (A.deeper (envOfC qual (defScope st) s.heap.objs.size f cdv)) → JSsX (cxOf (L2N.CX P w) P w K mg base N qual (defScope st) f cdv A outer s H E) TL (defBody st) wb)
    (rd : ∀ cs R, sp cs R → wb (endsOf cs R) (start0 N.length cs)) : FnG P w K mg base (L2N.CX P w) (k + 1) f fd ps (liftSpX K TL sp) := by
  obtain ⟨oc, od, kV, doc, pm, an, cdv, ct, osl, rfl, lk, hcd⟩ := F.ex
  refine fnG_of lk hcd S (fun vs H Q E ⟨B, G, cs, R, rel, hs, _⟩ => by rw [← dl cs R hs, ← rel.len, List.length_map]) fun A outer s H vs Q E hr ⟨B, G, cs, R, rel, hs, k, kx⟩ => ?_
  refine ⟨_, body cdv A outer s H E hr, B, G, _, endsOf cs R, rel_start rel, rd cs R hs, ⟨fun σ' H' G' δ' ⟨io, r⟩ sG rel' => k _ H' G' _ _ r sG (rel_end rel rel' sG io) .non, fun v σ' H' G' x δ' ⟨io, r⟩ sG rel' dn => k v H' G' x _ r sG (rel_end rel rel' sG io) dn, fun _ _ _ _ h => h.elim, fun _ _ _ _ h => h.elim⟩, ?_⟩
  refine (L2N.takes_of (E := E) rfl rfl rfl rfl).imp fun cls d σ' H' ⟨G', δ', x, ⟨io, r⟩, sG, rel', ex⟩ => ?_
  exact kx cls d H' G' x _ r sG (rel_end rel rel' sG io) ex
end
section
variable {X : Cx} {TL : XNames} {CX : CXT} {k : Nat} {f : Addr} {fd : FuncData} {ps : List Str} {x : Str} {p pos : Pos} {e : Expr} {es : List Expr}
theorem run_fnGS {sp : Sp} {E : L2.St → XK} {pins : List (Addr × Obj)} {σ : L2.St} {H : Hp} {s : Shared} {Q : VK} {us : List Value} {vs : List V} (F : FnG X.prog X.w X.K X.mg X.base CX k f fd ps sp) (hr : RoomG k X.A) (hb : Binds X.K fd ps []) (hx : PassesAt CX X σ (E σ))
    (I : Inv X pins σ H s) (r : Vals vs us) (h : sp vs H Q (E σ)) : wpAny (model X.prog X.w) X.A (call (.ref f) us) (EP X pins σ Q) X.xe s := by
  have many : (us ++ []).length = ps.length := (List.append_nil us).symm ▸ r.length.symm.trans (F.len _ _ _ _ h)
  have bound : BindsTo s fd ⟨us, []⟩ (ps.zip us) := by have := hb s us I.kIn many; rwa [List.append_nil] at this
  refine wpAny_call (codeAny_mono (F.run X.A X.stack s H ⟨us, []⟩ us vs Q (E σ) hr I.env0 bound r h) ?_)
  rintro (err | _ | _ | _ | u) z back <;> first | exact hx pins H s err z I back | exact False.elim back | exact I.after back
theorem pe_callGS {sp : Sp} {E : L2.St → XK} {t : TA} (F : FnG X.prog X.w X.K X.mg X.base CX k f fd ps sp) (hr : RoomG k X.A) (hg : Gl X x) (hm : X.mg x = some (.ref f)) (hk : PySem.W.keepIn X.K (.ref f) = true) (hb : Binds X.K fd ps []) (hx : ∀ σ, PassesAt CX X σ (E σ))
    (ha : PA X (e :: es) t) (hdb : (x == ("__debug__" : Str)) = false := by decide) (he : starEach (e :: es) X.env = (false, eval e X.env) :: starEach es X.env := by rfl) (hpl : (backTo pos (starEach es X.env)).any (·.1) = false := by rfl) : PE X (.Call (.Name x p) (e :: es) [] pos) (tCallS sp E t) := by
  exact ⟨fun pins s σ H Q I h => wpAny_Call_Name_kw (ld_glob I hg hm (PySem.W.callWith_K (h₀ := X.base) I.ok.mod.kin hk (wpAny_mono (ha.run pos pins s σ H _ I h)
    (fun us z ⟨vs, H1, I1, r, q⟩ => ⟨I1.kIn, run_fnGS F hr hb (hx σ) I1 r q⟩) fun _ _ z => z) he hpl) hdb)⟩
def wCallX (m : List Bool) (sp : DSp) (w : DAX) : DEX := fun δ R Z => w δ (fun os δ1 => lkM m os δ1 fun os' δ2 => (slotsOf os').Nodup ∧ sp (os'.map (cellOf δ2)) fun x cs => onX x (fun x => R (.d x) (putBack os' cs δ2)) (fun n fs => Z (excD n fs) (putBack os' cs δ2)) .mk) Z
theorem dn_notX {K : PySem.W.Frag} {G : Hp} {v : V} {n : Str} {fs : List (Str × PyData)} (h : Dn K G v (excD n fs)) : False := by cases h
theorem jex_call {m : List Bool} {sp : DSp} {w : DAX} (F : FnG X.prog X.w X.K X.mg X.base (L2N.CX X.prog X.w) k f fd ps (liftSpX X.K TL sp)) (hr : RoomG k X.A) (hg : Gl X x) (hm : X.mg x = some (.ref f)) (hk : PySem.W.keepIn X.K (.ref f) = true) (hb : Binds X.K fd ps [])
    (ha : JAX X TL (e :: es) w) (hdb : (x == ("__debug__" : Str)) = false := by decide) (he : starEach (e :: es) X.env = (false, eval e X.env) :: starEach es X.env := by rfl) (hpl : (backTo pos (starEach es X.env)).any (·.1) = false := by rfl) : JEX X TL (.Call (.Name x p) (e :: es) [] pos) (wCallX m sp w) :=
  ⟨fun pins s σ H Q I ⟨B, G, δ, R, Z, rel, hw, k, tk⟩ => (pe_callGS (E := WE (wxOf X.K TL B G Z)) F hr hg hm hk hb (L2N.passAt tk) ha hdb he hpl).run pins s σ H Q I ⟨B, G, δ, _, Z, rel, hw, fun vs H1 G1 os δ1 r1 s1 rel1 ok1 => by
    obtain ⟨G2, δ2, os', ⟨nd, q⟩, s2, rel2, ok2⟩ := lkM_ok rel1 ok1 r1
    refine ⟨_, G2, _, _, call_rel rel2 ok2 nd, q, fun v H' G' z cs r s3 rel3 dn => k v H' G' _ _ (onX_no r fun n fs e => by rw [e] at dn; exact dn_notX dn) (s1.trans (s2.trans s3)) (call_back rel2 ok2 nd s3 rel3) dn, fun cls d H' G' z cs r s3 rel3 ex => ?_⟩
    obtain ⟨⟨n, C, fs, rfl, h2⟩, h3⟩ := ex
    exact ⟨G', _, _, onX_yes r, s1.trans (s2.trans s3), call_back rel2 ok2 nd s3 rel3, ⟨⟨n, C, fs, rfl, h2⟩, h3⟩⟩, tk⟩⟩
def xE (w : DE) : DEX := fun δ R _ => w δ R
def xA (w : DA) : DAX := fun δ R _ => w δ R
def nX (w : DEX) : DE := fun δ R => w δ R fun _ _ => False
theorem jxe {w : DE} (h : JE X e w) : JEX X TL e (xE w) := jex_of h
theorem jxa {es : List Expr} {w : DA} (h : JA X es w) : JAX X TL es (xA w) := pa_le h fun pins s σ H Q I ⟨B, G, δ, R, Z, rel, hw, k, tk⟩ => ⟨B, G, δ, R, rel, hw, k⟩
theorem jnx {w : DEX} (h : JEX X TL e w) : JE X e (nX w) := je_ofX h
def noXE (E : DEnds) : DEnds := { E with rt := fun x δ' => notX x ∧ E.rt x δ' }
def wNoX (w : DTS) : DTS := fun E δ => w (noXE E) δ
theorem js_noX {st : Stmt} {w : DTS} (h : JSX X TL st w) : JS X st (wNoX w) := ps_le h fun pins s σ H D I ⟨B, G, δ, E, rel, hw, k⟩ =>
  ⟨B, G, δ, _, rel, hw, ⟨k.nx, fun v σ' H' G' x δ' ⟨_, r⟩ => k.rt v σ' H' G' x δ' r, k.bk, k.ct⟩, takes_no.imp fun c d σ H ⟨_, _, x, ⟨hn, _⟩, _, _, ⟨n, C, fs, e, _⟩, _⟩ => hn n fs e⟩
end
def hndE (i : Nat) (E : DEnds) : DEnds := { nx := fun δ2 => E.nx (δ2.set i .em), rt := fun y δ2 => E.rt y (δ2.set i .em), bk := fun δ2 => E.bk (δ2.set i .em), ct := fun δ2 => E.ct (δ2.set i .em) }
def tryE (i : Nat) (cat : Str → Bool) (wh : Addr → Value → Option Addr → DTS) (E : DEnds) : DEnds := { nx := E.nx, bk := E.bk, ct := E.ct, rt := fun x δ' => onX x (fun x => E.rt x δ') (fun n fs => if cat n = true then ∀ (a : Addr) (cls : Value) (d : Option Addr), wh a cls d (hndE i E) (δ'.set i (.xc a cls d (excD n fs))) else E.rt (excD n fs) δ') .mk }
def wTry (i : Nat) (cat : Str → Bool) (wb : DTS) (wh : Addr → Value → Option Addr → DTS) : DTS := fun E δ => wb (tryE i cat wh E) δ
section
variable {X : Cx} {TL : XNames}
theorem clear_set {K : PySem.W.Frag} {B G H : Hp} {δ : DS} {σ : L2.St} (i : Nat) (R : Rel K B G δ σ H) : Rel K B G (δ.set i .em) (σ.set i none) H := R.clear none
theorem jsx_try {x n : Str} {c : Value} {i : Nat} {body suite : List Stmt} {b₀ : Stmt} {np pos pos' : Pos} {cat : Str → Bool} {wb : DTS} {wh : Addr → Value → Option Addr → DTS}
    (hs : X.stack = X.env :: X.outer) (hf : X.env.frame = some X.env.locals) (hN : X.N.Nodup) (hi : X.N[i]? = some n) (hln : X.env.kindOf n = some .local) (hc : Names X x c)
    (hnm : ∀ n C, (n, C) ∈ TL → (PySem.W.clsIn X.K C).map (·.name) = some n) (hcat : ∀ n C, (n, C) ∈ TL → PySem.W.exmOne X.K (.ref C) c = some (cat n))
    (hb : ∀ (pn : List (Addr × Obj)) (xe : Value → Shared → Prop), PassesOwn (model X.prog X.w) X.A X.env xe → JSsX (X.tr pn xe) TL body wb)
    (hsu : ∀ (a : Addr) (oe : Obj) (cls : Value) (d : Option Addr) (pn : List (Addr × Obj)), Zc cls d oe → (∃ vs, oe.data = .fields vs) → (∃ n C, (n, C) ∈ TL ∧ cls = .ref C) → JSs (X.suite a ((a, oe) :: pn)) (b₀ :: suite) (wh a cls d)) :
    JSX X TL (.Try body [.ExceptHandler (some (.Name x np)) (some n) (b₀ :: suite) pos'] [] [] pos) (wTry i cat wb wh) := ⟨fun pins s σ H D I ⟨B, G, δ, E, rel, hw, k⟩ => by
  refine (L2N.ps_try_as (i := i) (Wout := wxOf X.K TL B G E.rt) (tb := fun W D σ H => ∃ B G δ E, Rel X.K B G δ σ H ∧ wb E δ ∧ EndsOk X.K B G E D ∧ ∀ cls d σ' H', wxOf X.K TL B G E.rt cls d σ' H' → W cls d σ' H')
    (ts := fun a cls d D σ H => (∃ n C, (n, C) ∈ TL ∧ cls = .ref C) ∧ upS X.K (wh a cls d) D σ H) hs hf hN hi hln hc k.tk (fun W pn xe tk po => ?_) (fun a oe cls d pn hz hv => ?_)).run pins s σ H D I ?_
  · exact pss_le (hb pn xe po) fun pins s σ H D I ⟨B, G, δ, E, rel, hw, k, wx⟩ => ⟨B, G, δ, E, rel, hw, k, tk.imp wx⟩
  · exact ⟨fun pins s σ H D I ⟨hC, q⟩ => (hsu a oe cls d pn hz.zc hv hC).run pins s σ H D I q⟩
  · refine ⟨B, G, δ, _, rel, hw, ⟨k.nx, fun v σ' H' G' x δ' q sG rel' dn => by
      have hn : notX x := fun n fs e => by
        rw [e] at dn
        exact dn_notX dn
      have q2 : E.rt x δ' := And.right q hn
      exact k.rt v σ' H' G' x δ' q2 sG rel' dn, k.bk, k.ct⟩, ?_⟩
    rintro cls d σ' H' ⟨G', δ', x, q, sG, rel', hx⟩
    obtain ⟨⟨n0, C, fs, rfl, hcl, hn0, hd⟩, n1, C1, hT, hcl1⟩ := id hx
    rw [hcl] at hcl1
    have : C = C1 := Value.ref.inj hcl1
    subst this
    have : n0 = n1 := by
      have := hnm n1 C hT
      rw [hn0] at this
      exact Option.some.inj this
    subst this
    have q := And.left q n0 fs rfl
    simp only [] at q
    refine ⟨cat n0, by rw [hcl]; exact hcat n0 C hT, fun e a na => ⟨⟨n0, C, hT, hcl⟩, ?_⟩, fun e => ?_⟩
    · rw [if_pos e] at q
      refine ⟨B, G', _, _, rel'.set (i := i) (c := .xc a cls d (excD n0 fs)) ⟨rfl, hx.1⟩ (fun _ m => nomatch m), q a cls d, ?_⟩
      exact ⟨fun σ2 H2 G2 δ2 r s2 rel2 => k.nx _ H2 G2 _ r (sG.trans s2) (clear_set i rel2), fun v σ2 H2 G2 y δ2 r s2 rel2 dn => k.rt v _ H2 G2 y _ r (sG.trans s2) (clear_set i rel2) dn,
        fun σ2 H2 G2 δ2 r s2 rel2 => k.bk _ H2 G2 _ r (sG.trans s2) (clear_set i rel2), fun σ2 H2 G2 δ2 r s2 rel2 => k.ct _ H2 G2 _ r (sG.trans s2) (clear_set i rel2)⟩
    · rw [e, if_neg Bool.false_ne_true] at q
      exact ⟨G', δ', _, q, sG, rel', hx⟩⟩
end
end DL
set_option Elab.async false
set_option linter.all false
set_option maxRecDepth 100000
set_option maxHeartbeats 4000000
namespace DL
open PySem PySem.Spec PyProof.Rows L2
variable [Tb]
section
open PySem.W PySem.Calls
variable {prog : Program} {w : World} {A : Around} {E : Value → Shared → Prop} {s : Shared} {K : Frag} {x D : Addr} {ox : Obj}
structure ClsBy (K : Frag) (D : Addr) : Prop where
  get : findIn K (.ref D) "__getattribute__" = some (some (.builtin "BaseException.__getattribute__"))
  no : findIn K (.ref D) "__getattr__" = some none
  exc : subIn K (.ref D) (.type "BaseException") = some true
  dict : hasDictIn K D = true
  attr : findIn K (.ref D) "__class__" = some (some (.builtin "object.__class__"))
  desc : specialIn K (.builtin "object.__class__") "__get__" = some (some (.builtin "getset_descriptor.__get__"))
  takes : takesIn K (.builtin "object.__class__") = some true
  root : mroIn K D (.type "object") = some true
variable {od : Option Obj}
theorem ClsBy.cls (c : ClsBy K D) : ∃ cd, clsIn K D = some cd := (any_some c.dict).imp fun _ z => z.1
theorem ClsBy.found (c : ClsBy K D) : findObj K D od "__class__" = some (.bind (.builtin "getset_descriptor.__get__") (.builtin "object.__class__")) := by
  obtain ⟨cd, e⟩ := c.cls
  simp [findObj, e, c.attr, c.desc, c.takes]
theorem ClsBy.obj (c : ClsBy K D) : ∃ o cd, K.lookup D = some o ∧ o.data = .cls cd := by
  obtain ⟨cd, e⟩ := c.cls
  rw [clsIn] at e
  split at e
  next _ _ cd' _ at_D => exact ⟨_, cd', at_D, rfl⟩
  next => exact nomatch e
section
variable {t : Nat} {Q : Fin → Shared → Prop}
theorem ClsBy.root_get (c : ClsBy K D) {tk : Tok} {s : Shared} (X : K.In s.heap) (I : InstAt s.heap x ox D od) (h : Q (.done (.ret (.ref D))) s) : wpAny (model prog w) A (Builtin.«object.__getattribute__» ⟨[.ref x, .str "__class__" tk], []⟩) Q E s := by
  obtain ⟨hp, gs, dr, tk0, os⟩ := s
  have type := I.type (M := model prog w)
  have find := looks_find (M := model prog w) X I c.found
  have desc : wpAny (model prog w) A (holding [Value.builtin "object.__class__"] (call (.builtin "getset_descriptor.__get__") [.builtin "object.__class__", .ref x, .ref D]) >>= ret) Q E ⟨hp, gs, dr, tk0, os⟩ := by
    refine wpAny_bind (wpAny_holding (wpAny_call (class_get (s := ⟨hp, gs, dr, tk0, os⟩) (ox := ox) (od := od) X I c.root ?_)))
    exact wpAny_pure h
  delta Builtin.«object.__getattribute__»
  exact wpAny_bind (wpAny_of_eq (a := ((Value.ref x : Value), [Value.str "__class__" tk])) (by simp only [slotArgs]; rfl) (wpAny_bind (wpAny_pure (wpAny_bind (type.at (wpAny_bind (find.at desc)))))))
end
section
variable {Q : Option Value → Shared → Prop}
theorem ClsBy.tells (c : ClsBy K D) (X : K.In s.heap) (I : InstAt s.heap x ox D od) (h : Q (some (.ref D)) { s with toks := s.toks + 1 }) : wpAny (model prog w) A (getAttr? (.ref x) "__class__") Q E s := by
  obtain ⟨hp, gs, dr, tk, os⟩ := s
  have type := I.type (M := model prog w)
  have isExc : Looks (model prog w) hp (isInstance (.ref x) (.type "BaseException")) true := type.andThen (looks_subIn X c.exc)
  have other : (Value.builtin "BaseException.__getattribute__" == Value.builtin "object.__getattribute__") = false := by decide +kernel
  have by_base {G E' : Value → Shared → Prop} {A' : Around} (g : G (.ref D) ⟨hp, gs, dr, tk + 1, os⟩) : wpAny (model prog w) A' (call (.builtin "BaseException.__getattribute__") [.ref x, .str "__class__" tk]) G E' ⟨hp, gs, dr, tk + 1, os⟩ :=
    wpAny_call (codeAny_call_builtin PySem.F.excAttr_ValueError.ga.plain PySem.F.entry_bexc_ga (@check_slot (model prog w) _ _ ⟨hp, gs, dr, tk + 1, os⟩ "BaseException.__getattribute__" "BaseException" "__getattribute__" (.ref x) [.str "__class__" tk] [] _ (by decide +kernel) (by decide +kernel) isExc
      (PySem.F.args_bexc_ga (.ref x) (.str "__class__" tk)) (c.root_get X I g)))
  have look1 := looks_findIn (M := model prog w) X c.get
  have look2 := looks_findIn (M := model prog w) X c.no
  delta getAttr? getAttrBy? getAttrBy
  refine wpAny_bind (wpAny_mkText (wpAny_bind (wpAny_attempt (wpAny_holding (wpAny_bind (type.at (wpAny_bind (look1.at (wpAny_ite_false (by rw [other, Bool.and_false]; rfl) ?_)))))))))
  delta getAttrByItsOwn hookBefore
  refine wpAny_bind (wpAny_ite_true (by rfl) (look2.at (wpAny_bind (wpAny_attempt (wpAny_holding ?_)))))
  delta callGetattribute
  refine wpAny_ite_false (by rfl) ?_
  delta boundAndCalled
  rw [PySem.F.excAttr_ValueError.ga.bind (.ref x)]
  refine wpAny_bind (wpAny_pure (show wpAny _ _ (call (.builtin "BaseException.__getattribute__") [.ref x, .str "__class__" tk]) _ _ _ from by_base ?_))
  show wpAny _ _ (handedOut (.ref D)) _ _ _
  rw [handedOut_of (v := .ref D) rfl]
  exact wpAny_pure (wpAny_pure h)
end
end
theorem look_in {K : PySem.W.Frag} {G : Hp} {f : Str} {y : PyData} : ∀ {ws : List (Str × V)} {fs : List (Str × PyData)}, ws.map (·.1) = fs.map (·.1) → DnL K G (ws.map (·.2)) (fs.map (·.2)) → fs.lookup f = some y → ∃ v, ws.lookup f = some v ∧ Dn K G v y
  | [], [], _, _, h => by cases h
  | [], _ :: _, h, _, _ => by cases h
  | _ :: _, [], h, _, _ => by cases h
  | (n, v) :: ws, (m, x) :: fs, h, t, l => by
    simp only [List.map_cons, List.cons.injEq] at h
    obtain ⟨rfl, h⟩ := h
    simp only [List.map_cons] at t
    cases t with
    | cons t1 t2 =>
      rw [List.lookup_cons] at l ⊢
      split at l
      · cases l
        exact ⟨v, rfl, t1⟩
      · exact look_in h t2 l
def xfC (c : Option Cell) (a : Addr) (cls : Value) (d : Option Addr) (f : Str) (k : PyData → Prop) (_u : Stop k) : Prop := ∃ n fs y, c = some (.xc a cls d (excD n fs)) ∧ fs.lookup f = some y ∧ k y
def wXf (a : Addr) (cls : Value) (d : Option Addr) (i : Nat) (f : Str) : DE := fun δ R => xfC δ[i]? a cls d f (fun y => R (.d y) δ) .mk
def isxC (c : Option Cell) (a : Addr) (cls : Value) (d : Option Addr) (k : Str → Prop) (_u : Stop k) : Prop := ∃ n fs, c = some (.xc a cls d (excD n fs)) ∧ k n
def wIsx (a : Addr) (cls : Value) (d : Option Addr) (i : Nat) (isin : Str → Bool) : DE := fun δ R => isxC δ[i]? a cls d (fun n => R (.d (.bool (isin n))) δ) .mk
omit [Tb] in
@[simp ↓] theorem wXf_ap (a : Addr) (cls : Value) (d : Option Addr) (i : Nat) (f : Str) (δ : DS) (R : Opd → DS → Prop) : wXf a cls d i f δ R = xfC δ[i]? a cls d f (fun y => R (.d y) δ) .mk := rfl
omit [Tb] in
@[simp ↓] theorem wIsx_ap (a : Addr) (cls : Value) (d : Option Addr) (i : Nat) (isin : Str → Bool) (δ : DS) (R : Opd → DS → Prop) : wIsx a cls d i isin δ R = isxC δ[i]? a cls d (fun n => R (.d (.bool (isin n))) δ) .mk := rfl
omit [Tb] in
@[simp ↓] theorem isxC_x (a : Addr) (cls : Value) (d : Option Addr) (n : Str) (fs : List (Str × PyData)) (k : Str → Prop) (u : Stop k) : isxC (some (.xc a cls d (excD n fs))) a cls d k u = k n := propext ⟨fun ⟨m, gs, e, h⟩ => by
  simp only [Option.some.injEq, Cell.xc.injEq, true_and] at e
  obtain ⟨rfl, _⟩ := excD_inj e
  exact h, fun h => ⟨n, fs, rfl, h⟩⟩
theorem xfC_of {a : Addr} {cls : Value} {d : Option Addr} {n f : Str} {fs : List (Str × PyData)} {y : PyData} {k : PyData → Prop} {u : Stop k} (hl : fs.lookup f = some y) : xfC (some (.xc a cls d (excD n fs))) a cls d f k u = k y := propext ⟨fun ⟨m, gs, z, e, l, h⟩ => by
  simp only [Option.some.injEq, Cell.xc.injEq, true_and] at e
  obtain ⟨_, rfl⟩ := excD_inj e
  rw [hl] at l
  cases l
  exact h, fun h => ⟨n, fs, y, rfl, hl, h⟩⟩
omit [Tb] in
@[simp ↓] theorem xfC_1 (a : Addr) (cls : Value) (d : Option Addr) (n f : Str) (y : PyData) (k : PyData → Prop) (u : Stop k) : xfC (some (.xc a cls d (excD n [(f, y)]))) a cls d f k u = k y := xfC_of (by simp)
section
variable {X : Cx} {TL : XNames} {a : Addr} {oe : Obj} {cls : Value} {d : Option Addr} {pn : List (Addr × Obj)} {pos p : Pos}
theorem je_xf {i : Nat} {y f : Str} (hN : X.N[i]? = some y) (hvis : Vis X.env.scope y) (hz : Zc cls d oe) (hv : ∃ vs, oe.data = .fields vs) (hC : ∃ n C, (n, C) ∈ TL ∧ cls = .ref C) (hX : ∀ n C, (n, C) ∈ TL → XfC X.K C ∧ PySem.W.findIn X.K (.ref C) f = some none)
    (hd : (y == ("__debug__" : Str)) = false := by decide) (hcd : (y == ("__classdict__" : Str)) = false := by decide) (hb : attributeBase (.Name y p) f X.env (eval (.Name y p) X.env) = eval (.Name y p) X.env := by rfl) :
    JE (X.suite a ((a, oe) :: pn)) (.Attribute (.Name y p) f pos) (wXf a cls d i f) := by
  obtain ⟨n0, C, hT, hcl⟩ := hC
  obtain ⟨q1, q2⟩ := hX n0 C hT
  refine pe_le (pe_xf q1 q2 hz hv (pe_var (X := X.suite a ((a, oe) :: pn)) hN hvis hd hcd) hb) fun pins s σ H Q I ⟨B, G, δ, R, rel, ⟨n, fs, z, e, l, hR⟩, k⟩ => ?_
  obtain ⟨o, hσ, ho, n1, C1, gs, e1, e2, e3, e4⟩ := rel.at e
  obtain ⟨rfl, rfl⟩ := excD_inj e1
  rcases e4 with ⟨dd, ws, q3, q4, q5, q6⟩ | ⟨rfl, _⟩
  · obtain ⟨v, h1, h2⟩ := look_in q5 q6 l
    exact ⟨.ref a, by rw [hσ, ho], rfl, hcl, dd, ws, v, q3, rel.sg _ _ q4, h1, k v H G _ _ hR (Same.refl _) rel h2⟩
  · cases l
def wMk0 (n : Str) : DMk := fun δ Z => Z (excD n []) δ
end
end DL
set_option Elab.async false
set_option linter.all false
set_option maxRecDepth 100000
set_option maxHeartbeats 4000000
namespace DL
open PySem PySem.Spec PyProof.Rows L2
variable [Tb]
omit [Tb] in
@[simp ↓] theorem tryE_nx (i : Nat) (cat : Str → Bool) (wh : Addr → Value → Option Addr → DTS) (E : DEnds) : (tryE i cat wh E).nx = E.nx := rfl
omit [Tb] in
@[simp ↓] theorem tryE_bk (i : Nat) (cat : Str → Bool) (wh : Addr → Value → Option Addr → DTS) (E : DEnds) : (tryE i cat wh E).bk = E.bk := rfl
omit [Tb] in
@[simp ↓] theorem tryE_ct (i : Nat) (cat : Str → Bool) (wh : Addr → Value → Option Addr → DTS) (E : DEnds) : (tryE i cat wh E).ct = E.ct := rfl
theorem tryE_rt (i : Nat) (cat : Str → Bool) (wh : Addr → Value → Option Addr → DTS) (E : DEnds) (x : PyData) (δ' : DS) : (tryE i cat wh E).rt x δ' = onX x (fun x => E.rt x δ') (fun n fs => if cat n = true then ∀ (a : Addr) (cls : Value) (d : Option Addr), wh a cls d (hndE i E) (δ'.set i (.xc a cls d (excD n fs))) else E.rt (excD n fs) δ') .mk := rfl
omit [Tb] in
@[simp ↓] theorem tryE_rtX (i : Nat) (cat : Str → Bool) (wh : Addr → Value → Option Addr → DTS) (E : DEnds) (n : Str) (fs : List (Str × PyData)) (δ' : DS) : (tryE i cat wh E).rt (excD n fs) δ' = if cat n = true then ∀ (a : Addr) (cls : Value) (d : Option Addr), wh a cls d (hndE i E) (δ'.set i (.xc a cls d (excD n fs))) else E.rt (excD n fs) δ' := by rw [tryE_rt, onX_exc]
theorem tryE_rtN {i : Nat} {cat : Str → Bool} {wh : Addr → Value → Option Addr → DTS} {E : DEnds} {x : PyData} {δ' : DS} (h : notX x) : (tryE i cat wh E).rt x δ' = E.rt x δ' := by rw [tryE_rt, onX_of h]
omit [Tb] in
@[simp ↓] theorem tryE_rt_tup (i : Nat) (cat : Str → Bool) (wh : Addr → Value → Option Addr → DTS) (E : DEnds) (xs : List PyData) (δ' : DS) : (tryE i cat wh E).rt (.tuple xs) δ' = E.rt (.tuple xs) δ' := tryE_rtN (notX_tup xs)
omit [Tb] in
@[simp ↓] theorem tryE_rt_list (i : Nat) (cat : Str → Bool) (wh : Addr → Value → Option Addr → DTS) (E : DEnds) (xs : List PyData) (δ' : DS) : (tryE i cat wh E).rt (.list xs) δ' = E.rt (.list xs) δ' := tryE_rtN (notX_list xs)
omit [Tb] in
@[simp ↓] theorem tryE_rt_bool (i : Nat) (cat : Str → Bool) (wh : Addr → Value → Option Addr → DTS) (E : DEnds) (b : Bool) (δ' : DS) : (tryE i cat wh E).rt (.bool b) δ' = E.rt (.bool b) δ' := tryE_rtN (notX_bool b)
omit [Tb] in
@[simp ↓] theorem hndE_nx (i : Nat) (E : DEnds) (δ : DS) : (hndE i E).nx δ = E.nx (δ.set i .em) := rfl
omit [Tb] in
@[simp ↓] theorem hndE_rt (i : Nat) (E : DEnds) (x : PyData) (δ : DS) : (hndE i E).rt x δ = E.rt x (δ.set i .em) := rfl
omit [Tb] in
@[simp ↓] theorem noXE_nx (E : DEnds) : (noXE E).nx = E.nx := rfl
omit [Tb] in
@[simp ↓] theorem noXE_bk (E : DEnds) : (noXE E).bk = E.bk := rfl
omit [Tb] in
@[simp ↓] theorem noXE_ct (E : DEnds) : (noXE E).ct = E.ct := rfl
omit [Tb] in
@[simp ↓] theorem noXE_rt (E : DEnds) (x : PyData) (δ : DS) : (noXE E).rt x δ = (notX x ∧ E.rt x δ) := rfl
omit [Tb] in
@[simp ↓] theorem wTry_ap (i : Nat) (cat : Str → Bool) (wb : DTS) (wh : Addr → Value → Option Addr → DTS) (E : DEnds) (δ : DS) : wTry i cat wb wh E δ = wb (tryE i cat wh E) δ := rfl
omit [Tb] in
@[simp ↓] theorem wNoX_ap (w : DTS) (E : DEnds) (δ : DS) : wNoX w E δ = w (noXE E) δ := rfl
omit [Tb] in
@[simp ↓] theorem wRetX_ap (w : DEX) (E : DEnds) (δ : DS) : wRetX w E δ = w δ (fun o δ1 => lk o δ1 fun x δ2 => E.rt x δ2) E.rt := rfl
omit [Tb] in
@[simp ↓] theorem wDropX_ap (w : DEX) (E : DEnds) (δ : DS) : wDropX w E δ = w δ (fun _ δ1 => E.nx δ1) E.rt := rfl
omit [Tb] in
@[simp ↓] theorem wSetX_ap (i : Nat) (w : DEX) (E : DEnds) (δ : DS) : wSetX i w E δ = w δ (fun o δ1 => lk o δ1 fun x δ2 => E.nx (δ2.set i (.d x))) E.rt := rfl
omit [Tb] in
@[simp ↓] theorem wAsgGX_ap (w : DEX) (g : DTG) (E : DEnds) (δ : DS) : wAsgGX w g E δ = w δ (fun o δ1 => lk o δ1 fun x δ2 => g x δ2 E.nx) E.rt := rfl
omit [Tb] in
@[simp ↓] theorem wRaise_ap (w : DMk) (E : DEnds) (δ : DS) : wRaise w E δ = w δ E.rt := rfl
omit [Tb] in
@[simp ↓] theorem wMk0_ap (n : Str) (δ : DS) (Z : PyData → DS → Prop) : wMk0 n δ Z = Z (excD n []) δ := rfl
omit [Tb] in
@[simp ↓] theorem wMk1_ap (n f : Str) (w : DA) (δ : DS) (Z : PyData → DS → Prop) : wMk1 n f w δ Z = w δ fun os δ1 => lkL os δ1 fun xs δ2 => match xs with
  | [x] => Z (excD n [(f, x)]) δ2
  | _ => False := by
  unfold wMk1
  congr 1; funext os δ1; congr 1; funext xs δ2
  match xs with
  | [] => simp
  | [x] => simp
  | x :: y :: l => simp
omit [Tb] in
@[simp ↓] theorem wMk2_ap (n f g : Str) (w : DA) (δ : DS) (Z : PyData → DS → Prop) : wMk2 n f g w δ Z = w δ fun os δ1 => lkL os δ1 fun xs δ2 => match xs with
  | [x, y] => Z (excD n [(g, y), (f, x)]) δ2
  | _ => False := by
  unfold wMk2
  congr 1; funext os δ1; congr 1; funext xs δ2
  match xs with
  | [] => simp
  | [x] => simp
  | [x, y] => exact propext ⟨fun ⟨a, b, e, h⟩ => by cases e; exact h, fun h => ⟨x, y, rfl, h⟩⟩
  | x :: y :: z :: l => simp
omit [Tb] in
@[simp ↓] theorem axNil_ap (δ : DS) (R : List Opd → DS → Prop) (Z : PyData → DS → Prop) : axNil δ R Z = R [] δ := rfl
omit [Tb] in
@[simp ↓] theorem axCons_ap (w : DEX) (r : DAX) (δ : DS) (R : List Opd → DS → Prop) (Z : PyData → DS → Prop) : axCons w r δ R Z = w δ (fun o δ1 => r δ1 (fun os δ2 => R (o :: os) δ2) Z) Z := rfl
omit [Tb] in
@[simp ↓] theorem xE_ap (w : DE) (δ : DS) (R : Opd → DS → Prop) (Z : PyData → DS → Prop) : xE w δ R Z = w δ R := rfl
omit [Tb] in
@[simp ↓] theorem xA_ap (w : DA) (δ : DS) (R : List Opd → DS → Prop) (Z : PyData → DS → Prop) : xA w δ R Z = w δ R := rfl
def noZ : PyData → DS → Prop := fun _ _ => False
omit [Tb] in
@[simp ↓] theorem nX_ap (w : DEX) (δ : DS) (R : Opd → DS → Prop) : nX w δ R = w δ R noZ := rfl
omit [Tb] in
@[simp ↓] theorem noZ_ap (x : PyData) (δ : DS) : noZ x δ = False := rfl
omit [Tb] in
@[simp ↓] theorem wTupX_ap (w : DAX) (δ : DS) (R : Opd → DS → Prop) (Z : PyData → DS → Prop) : wTupX w δ R Z = w δ (fun os δ1 => lkL os δ1 fun xs δ2 => xs.length ≤ 1000 ∧ R (.d (.tuple xs)) δ2) Z := rfl
omit [Tb] in
@[simp ↓] theorem wLstX_ap (w : DAX) (δ : DS) (R : Opd → DS → Prop) (Z : PyData → DS → Prop) : wLstX w δ R Z = w δ (fun os δ1 => lkL os δ1 fun xs δ2 => xs.length ≤ 1000 ∧ R (.d (.list xs)) δ2) Z := rfl
omit [Tb] in
@[simp ↓] theorem wIfEX_ap (t : DT) (wa wb : DEX) (δ : DS) (R : Opd → DS → Prop) (Z : PyData → DS → Prop) : wIfEX t wa wb δ R Z = t δ fun k δ1 => if k = true then wa δ1 R Z else wb δ1 R Z := rfl
omit [Tb] in
@[simp ↓] theorem wCallX_ap (m : List Bool) (sp : DSp) (w : DAX) (δ : DS) (R : Opd → DS → Prop) (Z : PyData → DS → Prop) : wCallX m sp w δ R Z = w δ (fun os δ1 => lkM m os δ1 fun os' δ2 => (slotsOf os').Nodup ∧ ask sp (os'.map (cellOf δ2)) (fun x cs => onX x (fun x => R (.d x) (putBack os' cs δ2)) (fun n fs => Z (excD n fs) (putBack os' cs δ2)) .mk) .mk) Z := rfl
end DL
set_option Elab.async false
set_option linter.all false
set_option maxRecDepth 100000
set_option maxHeartbeats 4000000
namespace DL
open PySem PySem.Spec PyProof.Rows L2 NdefX
variable [Tb]
structure CF (K : PySem.W.Frag) (n : Str) (C : Addr) : Prop where
  T : OexC K C
  nm : (PySem.W.clsIn K C).map (·.name) = some n
  xf : XfC K C
  ec : ExcC K C
def XC1 (P : Program) (w : World) (K : PySem.W.Frag) (mg : Str → Option Value) (base : Heap) (TL : XNames) (n f : Str) : Prop :=
  ∃ (C fI : Addr) (fd : FuncData) (ps : List Str), (n, C) ∈ TL ∧ CF K n C ∧ PySem.W.findIn K (.ref C) "__init__" = some (some (.ref fI)) ∧ PySem.W.typeIn K (.ref fI) = some (.type "function") ∧ FnOk P w K mg base CX0 1 fI fd ps (spI1 C f) ∧ Binds K fd ps [] ∧ mg n = some (.ref C)
section
variable {X : Cx} {TL : XNames} {p pos : Pos} {e : Expr} {es : List Expr} {n f g : Str} {wa : DA}
theorem jmk1x (h : XC1 X.prog X.w X.K X.mg X.base TL n f) (hr : RoomG 2 X.A) (hg : Gl X n) (ha : JA X (e :: es) wa)
    (hdb : (n == ("__debug__" : Str)) = false := by decide) (he : starEach (e :: es) X.env = (false, eval e X.env) :: starEach es X.env := by rfl) (hpl : (backTo pos (starEach es X.env)).any (·.1) = false := by rfl) :
    JMk X TL (.Call (.Name n p) (e :: es) [] pos) (wMk1 n f wa) := by
  obtain ⟨C, fI, fd, ps, h1, h2, h3, h4, h5, h6, h7⟩ := h
  exact jmk1 h1 h2.nm h2.T h3 h4 h5 hr.rm h6 hg h7 ha hdb he hpl
end
def YC (K : PySem.W.Frag) (mg : Str → Option Value) (TL : XNames) (x : Str) (cat : Str → Bool) : Prop := ∃ c, mg x = some c ∧ ∀ n C, (n, C) ∈ TL → PySem.W.exmOne K (.ref C) c = some (cat n)
def TLok (K : PySem.W.Frag) (TL : XNames) : Prop := ∀ n C, (n, C) ∈ TL → CF K n C
def FC (K : PySem.W.Frag) (TL : XNames) (f : Str) : Prop := ∀ n C, (n, C) ∈ TL → PySem.W.findIn K (.ref C) f = some none
section
variable {X : Cx} {TL : XNames}
theorem jsx_tryx {x n : Str} {i : Nat} {body suite : List Stmt} {b₀ : Stmt} {np pos pos' : Pos} {cat : Str → Bool} {wb : DTS} {wh : Addr → Value → Option Addr → DTS} (tl : TLok X.K TL) (y : YC X.K X.mg TL x cat)
    (hs : X.stack = X.env :: X.outer) (hf : X.env.frame = some X.env.locals) (hN : X.N.Nodup) (hi : X.N[i]? = some n) (hln : X.env.kindOf n = some .local) (hg : Gl X x)
    (hb : ∀ (pn : List (Addr × Obj)) (xe : Value → Shared → Prop), PassesOwn (model X.prog X.w) X.A X.env xe → JSsX (X.tr pn xe) TL body wb)
    (hsu : ∀ (a : Addr) (oe : Obj) (cls : Value) (d : Option Addr) (pn : List (Addr × Obj)), Zc cls d oe → (∃ vs, oe.data = .fields vs) → (∃ n C, (n, C) ∈ TL ∧ cls = .ref C) → JSs (X.suite a ((a, oe) :: pn)) (b₀ :: suite) (wh a cls d)) (hdb : (x == ("__debug__" : Str)) = false := by decide) :
    JSX X TL (.Try body [.ExceptHandler (some (.Name x np)) (some n) (b₀ :: suite) pos'] [] [] pos) (wTry i cat wb wh) := by
  obtain ⟨c, h1, h2⟩ := y
  exact jsx_try hs hf hN hi hln ⟨hg, hdb, .inl h1⟩ (fun n C m => (tl n C m).nm) h2 hb hsu
variable {a : Addr} {oe : Obj} {cls : Value} {d : Option Addr} {pn : List (Addr × Obj)} {pos p : Pos}
theorem je_xfx {i : Nat} {y f : Str} (tl : TLok X.K TL) (fc : FC X.K TL f) (hz : Zc cls d oe) (hv : ∃ vs, oe.data = .fields vs) (hC : ∃ n C, (n, C) ∈ TL ∧ cls = .ref C) (hN : X.N[i]? = some y) (hvis : Vis X.env.scope y)
    (hd : (y == ("__debug__" : Str)) = false := by decide) (hcd : (y == ("__classdict__" : Str)) = false := by decide) (hb : attributeBase (.Name y p) f X.env (eval (.Name y p) X.env) = eval (.Name y p) X.env := by rfl) :
    JE (X.suite a ((a, oe) :: pn)) (.Attribute (.Name y p) f pos) (wXf a cls d i f) := je_xf hN hvis hz hv hC (fun n C m => ⟨(tl n C m).xf, fc n C m⟩) hd hcd hb
end
section
open PySem.W
variable {P : Program} {w : World} {K : Frag} {mg : Str → Option Value} {base h : Heap} {TL : XNames}
theorem xc1_mk {n x qual : Str} {C fI cda cc : Addr} {file : Str} {tf : Tok} {params : Arguments} {scope : Scope} {ar : Arg} {p0 p1 p2 p3 p4 p5 q0 q1 q2 q3 : Pos} {oc ct ccl cl doc pm : Value} {an od cdd cld : Option Addr} {osl ccs csl : Array (Option Value)} {cvs : Array Value} {cdD : ClassData}
    (KX : K.In h) (G : h.Ns mainGlobals mg) (hT : (n, C) ∈ TL) (F : CF K n C) (a : nsIn K mainGlobals n = some (some (.ref C))) (c : clsIn K C = some cdD) (sub : mroIn K C (.ref C) = some true) (opq : nsIn K cStatics "thirdparty.any" = some none) (ini : ks_superIn K C C "__init__" = some (some (.builtin "ValueError.__init__"))) (ve : subIn K (.ref C) (.type "ValueError") = some true)
    (iC : findIn K (.ref C) "__init__" = some (some (.ref fI))) (tI : typeIn K (.ref fI) = some (.type "function"))
    (lk : K.lookup fI = some ⟨oc, od, .func (fnX "__init__" qual params [.Expr (.Call (.Attribute (.Call (.Name "super" p0) [] [] p1) "__init__" p2) [.Name x p3] [] p4) p5, .Assign [.Attribute (.Name "self" q0) x q1] (.Name x q2) q3] scope [("__class__", cc)] .none .none doc pm an (.ref cda) ct), osl⟩)
    (hcd : codeIn K (.ref cda) qual = true) (hcode : K.lookup cda = some ⟨ccl, cdd, .fields cvs, ccs⟩) (hvs : cvs[2]? = some (.str file tf)) (hfile : ((P.main.file : Str) == file) = true)
    (hcell : K.lookup cc = some ⟨cl, cld, .cell (some (.ref C)), csl⟩) (hsm : nsIn K mainGlobals "super" = some none)
    (S : nscB ["self", x, "__class__"] ["self", x] ["__class__"] scope = true) (hp : (params.posonlyargs ++ params.args).head? = some ar) (har : ([("self" : Str), x] : List Str).head? = some ar.arg) (hnd : ([("self" : Str), x] : List Str).Nodup)
    (hks : scope.names.lookup ("super" : Str) = some .globalImplicit) (htop : (P.main.scope.names.lookup ("super" : Str)).isSome = false)
    (hst : ∀ L, starEach [.Name x p3] (ksEnv qual scope L fI (.ref cda) cc) = (false, eval (.Name x p3) (ksEnv qual scope L fI (.ref cda) cc)) :: starEach [] (ksEnv qual scope L fI (.ref cda) cc))
    (hev : ∀ L, ∃ pl, eval (.Call (.Attribute (.Call (.Name "super" p0) [] [] p1) "__init__" p2) [.Name x p3] [] p4) (ksEnv qual scope L fI (.ref cda) cc) = (do
      let ov ← attributeBase (.Call (.Name "super" p0) [] [] p1) "__init__" (ksEnv qual scope L fI (.ref cda) cc) (eval (.Call (.Name "super" p0) [] [] p1) (ksEnv qual scope L fI (.ref cda) cc))
      standAt p2.atName
      let (f, first) ← holding [ov] (getMethod ov "__init__" pl)
      callWith p4 f first (backTo p4 (starEach [.Name x p3] (ksEnv qual scope L fI (.ref cda) cc))) []))
    (hsw : ∀ L, swapsWith (.Call (.Attribute (.Call (.Name "super" p0) [] [] p1) "__init__" p2) [.Name x p3] [] p4) none p5.line (ksEnv qual scope L fI (.ref cda) cc) = pure false)
    (hin : ∀ L, interactive (ksEnv qual scope L fI (.ref cda) cc) = false)
    (hsw2 : ∀ env : Env, swapsWith (.Name x q2) (some (.Attribute (.Name "self" q0) x q1)) q3.line env = pure false)
    (hf : findIn K (.ref C) x = some none) (hdx : (x == ("__debug__" : Str)) = false) (hdc : (x == ("__classdict__" : Str)) = false)
    (hb : ∀ us : List Value, us.length = 2 → bindArgs (fnX "__init__" qual params [.Expr (.Call (.Attribute (.Call (.Name "super" p0) [] [] p1) "__init__" p2) [.Name x p3] [] p4) p5, .Assign [.Attribute (.Name "self" q0) x q1] (.Name x q2) q3] scope [("__class__", cc)] .none .none doc pm an (.ref cda) ct) ⟨us, []⟩ = pure (([("self" : Str), x] : List Str).zip us)) :
    XC1 P w K mg base TL n x :=
  ⟨C, fI, _, ["self", x], hT, F, iC, tI, init_ok1 lk ⟨⟨F.T, ⟨_, c⟩, sub, opq, ini, ve⟩, hcd, ⟨_, _, _, _, _, _, hcode, hvs, hfile⟩, ⟨_, _, _, hcell⟩, mg_none_of KX G hsm, nscope_by S, ⟨ar, hp, har⟩, hnd, hks, htop, hst, fun L => rfl, hev, hsw, hin⟩ hf hdx hdc hsw2,
    fun s us k hl => by
      rw [List.append_nil] at hl ⊢
      exact .of_eq (hb us hl), mg_of KX G a⟩
end
def AllT (p : Str → Addr → Prop) : XNames → Prop
  | [] => True
  | q :: r => p q.1 q.2 ∧ AllT p r
theorem allT_of {p : Str → Addr → Prop} : ∀ {TL : XNames}, AllT p TL → ∀ n C, (n, C) ∈ TL → p n C
  | q :: r, ⟨h1, h2⟩, n, C, m => by
    rcases List.mem_cons.mp m with rfl | m
    · exact h1
    · exact allT_of h2 n C m
section
variable {X : Cx} {TL : XNames} {x : Str} {e : Expr} {pos p : Pos}
theorem jxset (i : Nat) {w : DEX} {pos' : Pos} (nd : X.N.Nodup) (he : JEX X TL e w) (hi : X.N[i]? = some x := by rfl) (hx : Loc X.env.scope x := by first | exact .inl rfl | exact .inr rfl) (hs : swapsWith e (some (.Name x pos')) pos.line X.env = pure false := by rfl) (hf : X.fn x = true ∨ X.env.scope.names.lookup x = some .local := by first | exact .inl rfl | exact .inr rfl) :
    JSX X TL (.Assign [.Name x pos'] e pos) (wSetX i w) := jsx_set nd hi hx he hs hf
variable {a : Addr} {oe : Obj} {cls : Value} {d : Option Addr} {pn : List (Addr × Obj)}
theorem jxf (i : Nat) {f : Str} (tl : TLok X.K TL) (fc : FC X.K TL f) (hz : Zc cls d oe) (hv : ∃ vs, oe.data = .fields vs) (hC : ∃ n C, (n, C) ∈ TL ∧ cls = .ref C) (hN : X.N[i]? = some x := by rfl) (hvis : Vis X.env.scope x := by first | exact .inl rfl | exact .inr (.inl rfl) | exact .inr (.inr rfl))
    (hd : (x == ("__debug__" : Str)) = false := by decide) (hcd : (x == ("__classdict__" : Str)) = false := by decide) (hb : attributeBase (.Name x p) f X.env (eval (.Name x p) X.env) = eval (.Name x p) X.env := by rfl) :
    JE (X.suite a ((a, oe) :: pn)) (.Attribute (.Name x p) f pos) (wXf a cls d i f) := je_xfx tl fc hz hv hC hN hvis hd hcd hb
end
end DL
set_option Elab.async false
set_option linter.all false
set_option maxRecDepth 100000
set_option maxHeartbeats 4000000
namespace DL
open PySem PySem.Spec PyProof.Rows L2
variable [Tb]
structure Cl where
  c : Value
  i : Option Nat
  ts : Addr → Value → Option Addr → TS
def gone (i : Option Nat) (D : Ends) : Ends := match i with
  | none => D
  | some i => { nx := fun σ H => D.nx (σ.set i none) H, rt := D.rt, bk := fun σ H => D.bk (σ.set i none) H, ct := fun σ H => D.ct (σ.set i none) H }
def named (i : Option Nat) (a : Addr) (σ : L2.St) : L2.St := match i with
  | none => σ
  | some i => σ.set i (some (.ref a))
def wCls (K : PySem.W.Frag) (W : WX) (D : Ends) : List Cl → WX
  | [] => W
  | q :: r => fun cls d σ H => ∃ b, PySem.W.exmOne K cls q.c = some b ∧ if b = true then ∀ a, H a = none → q.ts a cls d (gone q.i D) (named q.i a σ) H else wCls K W D r cls d σ H
inductive ClsOk (X : Cx) : List ExceptHandler → List Cl → Prop
  | nil : ClsOk X [] []
  | cons {x : Str} {q : Cl} {n : Option Str} {b : Stmt} {bs : List Stmt} {np p : Pos} {hs : List ExceptHandler} {l : List Cl} (hc : Names X x q.c)
      (hn : match n, q.i with
        | none, none => True
        | some y, some i => X.N[i]? = some y ∧ X.env.kindOf y = some .local
        | _, _ => False)
      (su : ∀ (a : Addr) (o : Obj) (cls : Value) (d : Option Addr) (pn : List (Addr × Obj)), L2N.Zn cls d o → (∃ vs, o.data = .fields vs) → PSs (X.suite a ((a, o) :: pn)) (b :: bs) (q.ts a cls d)) (r : ClsOk X hs l) :
      ClsOk X (.ExceptHandler (some (.Name x np)) n (b :: bs) p :: hs) (q :: l)
section
variable {X : Cx} {pins : List (Addr × Obj)} {σ : L2.St} {H : Hp} {a : Addr} {cls : Value} {d : Option Addr} {D : Ends} {W : WX}
structure Aloft (X : Cx) (pins : List (Addr × Obj)) (σ : L2.St) (H : Hp) (a : Addr) (cls : Value) (d : Option Addr) (z : Shared) : Prop where
  ex : ∃ (B : Heap) (y : Shared), Inv X pins σ H y ∧ (∀ b o, y.heap.get? b = some o → b ∉ frs X.stack → B.get? b = some o) ∧ y.heap.UpToSlots z.heap ∧ HandSPX.FlyingZ B (X.env :: X.outer) a (L2N.Zn cls d) z.heap ∧ z.os = y.os ∧ AllBare z.gens
  na : H a = none
theorem Aloft.inv {z : Shared} (A : Aloft X pins σ H a cls d z) : Inv X pins σ H z := by
  obtain ⟨⟨B, y, J, nb, up, fl, os, ag⟩, _⟩ := A
  exact J.landed nb fl.1 up os ag
theorem Aloft.obj (hs : X.stack = X.env :: X.outer) (hf : X.env.frame = some X.env.locals) {z : Shared} (A : Aloft X pins σ H a cls d z) : ∃ o, z.heap.get? a = some o ∧ L2N.Zn cls d o ∧ (∃ vs, o.data = .fields vs) ∧ Inv (X.suite a ((a, o) :: (X.pn ++ pins))) [] σ H z := by
  have I := A.inv
  obtain ⟨⟨B, y, _, _, _, fl, _, _⟩, na⟩ := A
  obtain ⟨o, vs, at_, zn, dd⟩ := fl.there
  have out : a ∉ frs (X.env :: X.outer) := fun m => by
    obtain ⟨_, o', e', no⟩ := fl.2.2.1.mem m
    rw [at_] at e'
    cases e'
    exact no _ dd
  refine ⟨o, at_, zn, ⟨vs, dd⟩, I.suite at_ dd na (fun z => out ?_) fun m => out ?_⟩
  · exact List.mem_filterMap.mpr ⟨X.env, List.mem_cons_self, by rw [hf, z]⟩
  · obtain ⟨e, me, q⟩ := List.mem_filterMap.mp m
    exact List.mem_filterMap.mpr ⟨e, List.mem_cons_of_mem _ me, q⟩
theorem Aloft.mark {M : Model} {A : Around} {E : Value → Shared → Prop} {Q : Unit → Shared → Prop} {z : Shared} (h : Aloft X pins σ H a cls d z) (hQ : ∀ z', Aloft X pins σ H a cls d z' → Q () z') : wpAny M A (setFlight (.ref a) none) Q E z := by
  obtain ⟨⟨B, y, J, nb, up, fl, os, ag⟩, na⟩ := h
  exact HandSPX.lands_againZ fl fun h' fl' up' => hQ _ ⟨⟨B, y, J, nb, up.trans up', fl', os, ag⟩, na⟩
theorem Aloft.on (hs : X.stack = X.env :: X.outer) (hf : X.env.frame = some X.env.locals) (tk : L2N.Takes X W) {z : Shared} (h : Aloft X pins σ H a cls d z) (w : W cls d σ H) {Q : Flow → Shared → Prop} : wpAny (model X.prog X.w) X.A (handleBy (.ref a) X.env []) Q X.xe z := by
  obtain ⟨⟨B, y, J, nb, up, fl, os, ag⟩, na⟩ := h
  have last : wpAny (model X.prog X.w) X.A (setFlight (.ref a) X.env.frame) (fun _ z' => wpAny (model X.prog X.w) X.A (throw (.ref a) : Sem Flow) Q X.xe z') X.xe z := by
    rw [hf]
    refine HandSPX.setFlight_upZ fl fun h' held up' => wpAny_throw (tk _ _ ⟨a, B, y, pins, σ, H, cls, d, rfl, J, nb, up.trans up', .inr (.inr ?_), na, os, ag, w⟩)
    rw [hs]
    exact held
  obtain ⟨_, _, _, o, vs, T, _, _, at_, _, dd, f1, _⟩ := id fl
  refine wpAny_handleBy_nil ?_
  unfold PySem.passOn
  refine wpAny_bind (wpAny_field at_ dd f1 ?_)
  have no : ¬ ((Value.ref T == Value.none) = true) := by simp
  rw [if_neg no]
  first
    | exact wpAny_bind last
    | exact wpAny_bind (wpAny_pure (wpAny_bind last))
theorem suite_ends {i : Option Nat} {n : Option Str} {o : Obj} {p : Pos} {f : Flow} {z : Shared} (ok : X.Ok) (hN : X.N.Nodup) (hn : match n, i with
        | none, none => True
        | some y, some i => X.N[i]? = some y ∧ X.env.kindOf y = some .local
        | _, _ => False) (h : SP (X.suite a ((a, o) :: (X.pn ++ pins))) [] (gone i D) f z) :
    match n with
    | none => SP X pins D f z
    | some y => wpAny (model X.prog X.w) X.A (do bindName X.env y .none; unbindBehindTheSuite X.env y p) (fun _ z' => SP X pins D f z') X.xe z := by
  cases n with
  | none =>
    cases i with
    | some i => exact hn.elim
    | none => cases f with
      | ret u => obtain ⟨v, τ, H6, J, q⟩ := h; exact ⟨v, τ, H6, J.unsuite ok, q⟩
      | _ => obtain ⟨τ, H6, J, q⟩ := h; exact ⟨τ, H6, J.unsuite ok, q⟩
  | some y =>
    cases i with
    | none => exact hn.elim
    | some i => cases f with
      | ret u => obtain ⟨v, τ, H6, J, q⟩ := h; exact gone_ok (J.unsuite ok) hN hn.1 hn.2 fun _ J' => ⟨v, _, H6, J', q⟩
      | _ => obtain ⟨τ, H6, J, q⟩ := h; exact gone_ok (J.unsuite ok) hN hn.1 hn.2 fun _ J' => ⟨_, H6, J', q⟩
theorem clauses (hs : X.stack = X.env :: X.outer) (hf : X.env.frame = some X.env.locals) (hN : X.N.Nodup) (ok : X.Ok) (tk : L2N.Takes X W) : ∀ {hds : List ExceptHandler} {l : List Cl}, ClsOk X hds l → ∀ {z : Shared}, Aloft X pins σ H a cls d z → wCls X.K W D l cls d σ H →
    wpAny (model X.prog X.w) X.A (handleBy (.ref a) X.env hds) (SP X pins D) X.xe z
  | _, _, .nil, _, A, w => A.on hs hf tk w
  | _, _, .cons (x := x) (q := q) (n := n) (b := b₀) (bs := bs) (np := np) (p := p) (hs := hds') (l := l') hc hn su r, z, A, w => by
    obtain ⟨b, eb, w⟩ := w
    obtain ⟨o, at_, zn, fd, S⟩ := A.obj hs hf
    have looks : PySem.W.Looks (model X.prog X.w) z.heap (typeOf (.ref a)) cls := fun _ _ _ _ k h => wpAny_typeOf_ref (k _ _ at_) (zn.1.symm ▸ h)
    have is := PySem.W.exm_one (M := model X.prog X.w) A.inv.kIn looks eb
    refine wpAny_handleBy_cons (codeAny_handlers_test ?_) fun e => (nomatch e)
    have name : ∀ {Q : Value → Shared → Prop} {E : Value → Shared → Prop}, Q q.c z → wpAny (model X.prog X.w) (X.A.mark (some (.ref a))) (eval (.Name x np) X.env) Q E z := fun {Q E} h => by
      rcases hc with ⟨g, db, m | ⟨m, v, ne⟩⟩
      · exact ld_glob S g m h db
      · exact ld_blt S g m v h ne db
    refine name (is.here ?_)
    cases b with
    | false =>
      exact clauses hs hf hN ok tk r A (by simpa using w)
    | true =>
      have w : ∀ a, H a = none → q.ts a cls d (gone q.i D) (named q.i a σ) H := by simpa using w
      have run : ∀ {z2 z3 : Shared} {o2 : Obj}, Inv (X.suite a ((a, o2) :: (X.pn ++ pins))) [] (named q.i a σ) H z3 → L2N.Zn cls d o2 → (∃ vs, o2.data = .fields vs) →
          wpAny (model X.prog X.w) (X.A.mark (some (.ref a))) (execs (b₀ :: bs) X.env) (SP (X.suite a ((a, o2) :: (X.pn ++ pins))) [] (gone q.i D)) (fun _ _ => False) z3 := fun {z2 z3 o2} J z1 f1 => (su a o2 cls d (X.pn ++ pins) z1 f1).run [] z3 _ H _ J (w a A.na)
      cases n with
      | none =>
        cases ei : q.i with
        | some i => rw [ei] at hn; exact hn.elim
        | none =>
          refine codeAny_handlers_suite (A.mark fun z2 A2 => ?_)
          obtain ⟨o2, _, zn2, fd2, S2⟩ := A2.obj hs hf
          refine wpAny_mono (run (z2 := z2) (by rw [ei]; exact S2) zn2 fd2) (fun f z6 h => ?_) fun _ _ e => e.elim
          exact suite_ends (n := none) (p := p) ok hN hn h
      | some y =>
        cases ei : q.i with
        | none => rw [ei] at hn; exact hn.elim
        | some i =>
          have hn' := hn
          rw [ei] at hn'
          refine codeAny_handlers_suite_as (A.mark fun z2 A2 => ?_)
          obtain ⟨o2, _, zn2, fd2, S2⟩ := A2.obj hs hf
          refine store_ok (X := X.suite a ((a, o2) :: (X.pn ++ pins))) (v := .ref a) S2 hN hn'.1 (.inl hn'.2) rfl (fun z3 S3 => ?_) (.inr hn'.2)
          refine wpAny_mono (run (z2 := z2) (by rw [ei]; exact S3) zn2 fd2) (fun f z6 h => ?_) fun _ _ e => e.elim
          exact suite_ends (n := some y) (p := p) ok hN hn h
end
section
variable {X : Cx} {body : List Stmt} {h₀ : ExceptHandler} {hds : List ExceptHandler} {l : List Cl} {pos : Pos} {tb : WX → TS} {W : WX}
theorem ps_try_cls (hs : X.stack = X.env :: X.outer) (hf : X.env.frame = some X.env.locals) (hN : X.N.Nodup) (tk : L2N.Takes X W)
    (hb : ∀ (W : WX) (pn : List (Addr × Obj)) (xe : Value → Shared → Prop), L2N.Takes (X.tr pn xe) W → PassesOwn (model X.prog X.w) X.A X.env xe → PSs (X.tr pn xe) body (tb W)) (hh : ClsOk X (h₀ :: hds) l) :
    PS X (.Try body (h₀ :: hds) [] [] pos) (fun D σ H => tb (wCls X.K W D l) D σ H) := ⟨fun pins s σ H D I h => by
  have ok := I.ok
  have caught : L2N.Takes (X.tr (X.pn ++ pins) fun e s₁ => wpAny (model X.prog X.w) X.A (noteFrame e X.env) (fun _ s₂ => wpAny (model X.prog X.w) X.A (setFlight e none) (fun _ s₃ => wpAny (model X.prog X.w) X.A (handleBy e X.env (h₀ :: hds)) (SP X pins D) X.xe s₃) X.xe s₂) X.xe s₁) (wCls X.K W D l) := fun u z x => by
    obtain ⟨a, B, y, _, τ, H', cls, d, rfl, J', nb, up, sky, na, os, ag, w⟩ := x
    have J := J'.ofTry ok
    refine L2N.Sky.land L2N.Zn.steady (by rw [ok.frames, hs]) hf (by rw [← hs]; exact sky) fun h3 fl up3 => ?_
    exact clauses hs hf hN ok tk hh ⟨⟨B, y, J, nb, up.trans up3, fl, os, ag⟩, na⟩ w
  refine wpAny_Try_except (wpAny_mono ((hb _ _ _ caught PassesOwn.looking).run [] s σ H D (I.toTry _) h) (fun f z q => ?_) fun _ _ e => e)
  cases f with
  | next => obtain ⟨τ, H', J, q⟩ := q; exact wpAny_execs_nil ⟨τ, H', J.ofTry ok, q⟩
  | ret u => obtain ⟨v, τ, H', J, r⟩ := q; exact ⟨v, τ, H', J.ofTry ok, r⟩
  | brk => obtain ⟨τ, H', J, r⟩ := q; exact ⟨τ, H', J.ofTry ok, r⟩
  | cont => obtain ⟨τ, H', J, r⟩ := q; exact ⟨τ, H', J.ofTry ok, r⟩⟩
end
abbrev CD := Option Nat × (Str → Bool) × (Addr → Value → Option Addr → DTS)
def doX (i : Option Nat) (wh : Addr → Value → Option Addr → DTS) (n : Str) (fs : List (Str × PyData)) (E : DEnds) (δ : DS) : Prop := match i with
  | none => ∀ (a : Addr) (cls : Value) (d : Option Addr), wh a cls d E δ
  | some i => ∀ (a : Addr) (cls : Value) (d : Option Addr), wh a cls d (hndE i E) (δ.set i (.xc a cls d (excD n fs)))
def pickX : List CD → Str → List (Str × PyData) → DEnds → DS → Prop
  | [], n, fs, E, δ => E.rt (excD n fs) δ
  | q :: r, n, fs, E, δ => if q.2.1 n = true then doX q.1 q.2.2 n fs E δ else pickX r n fs E δ
theorem pick_yes {q : CD} {r : List CD} {n : Str} {fs : List (Str × PyData)} {E : DEnds} {δ : DS} (h : q.2.1 n = true) : pickX (q :: r) n fs E δ = doX q.1 q.2.2 n fs E δ := if_pos h
theorem pick_no {q : CD} {r : List CD} {n : Str} {fs : List (Str × PyData)} {E : DEnds} {δ : DS} (h : q.2.1 n = false) : pickX (q :: r) n fs E δ = pickX r n fs E δ := if_neg (by rw [h]; decide)
def tryM (l : List CD) (E : DEnds) : DEnds := { nx := E.nx, bk := E.bk, ct := E.ct, rt := fun x δ' => onX x (fun x => E.rt x δ') (fun n fs => pickX l n fs E δ') .mk }
def wTryM (l : List CD) (wb : DTS) : DTS := fun E δ => wb (tryM l E) δ
omit [Tb] in
@[simp ↓] theorem wTryM_ap (l : List CD) (wb : DTS) (E : DEnds) (δ : DS) : wTryM l wb E δ = wb (tryM l E) δ := rfl
omit [Tb] in
@[simp ↓] theorem tryM_nx (l : List CD) (E : DEnds) : (tryM l E).nx = E.nx := rfl
omit [Tb] in
@[simp ↓] theorem tryM_bk (l : List CD) (E : DEnds) : (tryM l E).bk = E.bk := rfl
omit [Tb] in
@[simp ↓] theorem tryM_ct (l : List CD) (E : DEnds) : (tryM l E).ct = E.ct := rfl
omit [Tb] in
@[simp ↓] theorem tryM_rt (l : List CD) (E : DEnds) (x : PyData) (δ : DS) : (tryM l E).rt x δ = onX x (fun x => E.rt x δ) (fun n fs => pickX l n fs E δ) .mk := rfl
inductive ClsD (X : Cx) (TL : XNames) : List ExceptHandler → List CD → Prop
  | nil : ClsD X TL [] []
  | bare {x : Str} {cat : Str → Bool} {wh : Addr → Value → Option Addr → DTS} {b : Stmt} {bs : List Stmt} {np p : Pos} {hs : List ExceptHandler} {l : List CD} (y : YC X.K X.mg TL x cat) (hg : Gl X x) (hdb : (x == ("__debug__" : Str)) = false)
      (su : ∀ (a : Addr) (oe : Obj) (cls : Value) (d : Option Addr) (pn : List (Addr × Obj)), Zc cls d oe → (∃ vs, oe.data = .fields vs) → (∃ n C, (n, C) ∈ TL ∧ cls = .ref C) → JSs (X.suite a ((a, oe) :: pn)) (b :: bs) (wh a cls d)) (r : ClsD X TL hs l) :
      ClsD X TL (.ExceptHandler (some (.Name x np)) none (b :: bs) p :: hs) ((none, cat, wh) :: l)
  | as {x n : Str} {i : Nat} {cat : Str → Bool} {wh : Addr → Value → Option Addr → DTS} {b : Stmt} {bs : List Stmt} {np p : Pos} {hs : List ExceptHandler} {l : List CD} (y : YC X.K X.mg TL x cat) (hg : Gl X x) (hdb : (x == ("__debug__" : Str)) = false) (hi : X.N[i]? = some n) (hln : X.env.kindOf n = some .local)
      (su : ∀ (a : Addr) (oe : Obj) (cls : Value) (d : Option Addr) (pn : List (Addr × Obj)), Zc cls d oe → (∃ vs, oe.data = .fields vs) → (∃ n C, (n, C) ∈ TL ∧ cls = .ref C) → JSs (X.suite a ((a, oe) :: pn)) (b :: bs) (wh a cls d)) (r : ClsD X TL hs l) :
      ClsD X TL (.ExceptHandler (some (.Name x np)) (some n) (b :: bs) p :: hs) ((some i, cat, wh) :: l)
section
variable {X : Cx} {TL : XNames}
inductive Pair (X : Cx) (TL : XNames) : List Cl → List CD → Prop
  | nil : Pair X TL [] []
  | cons {c : Value} {i : Option Nat} {cat : Str → Bool} {wh : Addr → Value → Option Addr → DTS} {l : List Cl} {m : List CD} (hc : ∀ n C, (n, C) ∈ TL → PySem.W.exmOne X.K (.ref C) c = some (cat n)) (r : Pair X TL l m) :
      Pair X TL (⟨c, i, fun a cls d D σ H => (∃ n C, (n, C) ∈ TL ∧ cls = .ref C) ∧ upS X.K (wh a cls d) D σ H⟩ :: l) ((i, cat, wh) :: m)
theorem clsD_ok : ∀ {hs : List ExceptHandler} {m : List CD}, ClsD X TL hs m → ∃ l, ClsOk X hs l ∧ Pair X TL l m
  | _, _, .nil => ⟨[], .nil, .nil⟩
  | _, _, .bare (wh := wh) y hg hdb su r => by
    obtain ⟨l, h1, h2⟩ := clsD_ok r
    obtain ⟨c, hm, hc⟩ := y
    exact ⟨⟨c, none, fun a cls d D σ H => (∃ n C, (n, C) ∈ TL ∧ cls = .ref C) ∧ upS X.K (wh a cls d) D σ H⟩ :: l, .cons (n := none) ⟨hg, hdb, .inl hm⟩ True.intro (fun a o cls d pn zn fd => ⟨fun pins s σ H D I ⟨hC, q⟩ => (su a o cls d pn zn.zc fd hC).run pins s σ H D I q⟩) h1, .cons hc h2⟩
  | _, _, .as (i := i) (wh := wh) y hg hdb hi hln su r => by
    obtain ⟨l, h1, h2⟩ := clsD_ok r
    obtain ⟨c, hm, hc⟩ := y
    exact ⟨⟨c, some i, fun a cls d D σ H => (∃ n C, (n, C) ∈ TL ∧ cls = .ref C) ∧ upS X.K (wh a cls d) D σ H⟩ :: l, .cons (n := some _) ⟨hg, hdb, .inl hm⟩ ⟨hi, hln⟩ (fun a o cls d pn zn fd => ⟨fun pins s σ H D I ⟨hC, q⟩ => (su a o cls d pn zn.zc fd hC).run pins s σ H D I q⟩) h1, .cons hc h2⟩
theorem ends_clear {B G G' : Hp} {E : DEnds} {D : Ends} (k : EndsOk X.K B G E D) (s : Same G G') (i : Nat) : EndsOk X.K B G' (hndE i E) (gone (some i) D) :=
  ⟨fun σ2 H2 G2 δ2 r s2 rel2 => k.nx _ H2 G2 _ r (s.trans s2) (clear_set i rel2), fun v σ2 H2 G2 y δ2 r s2 rel2 dn => k.rt v _ H2 G2 y _ r (s.trans s2) (clear_set i rel2) dn,
    fun σ2 H2 G2 δ2 r s2 rel2 => k.bk _ H2 G2 _ r (s.trans s2) (clear_set i rel2), fun σ2 H2 G2 δ2 r s2 rel2 => k.ct _ H2 G2 _ r (s.trans s2) (clear_set i rel2)⟩
theorem pick_wish {B G : Hp} {E : DEnds} {D : Ends} (k : EndsOk X.K B G E D) {G' : Hp} {δ' : DS} {σ : L2.St} {H : Hp} {C : Addr} {d : Option Addr} {n : Str} {fs : List (Str × PyData)} (s : Same G G') (rel : Rel X.K B G' δ' σ H) (hx : ExcR X.K TL G' (.ref C) d (excD n fs)) (hT : (n, C) ∈ TL) :
    ∀ {l : List Cl} {m : List CD}, Pair X TL l m → pickX m n fs E δ' → wCls X.K (wxOf X.K TL B G E.rt) D l (.ref C) d σ H
  | _, _, .nil, q => ⟨G', δ', _, q, s, rel, hx⟩
  | _, _, .cons (i := i) (cat := cat) (wh := wh) hc r, q => by
    refine ⟨cat n, hc n C hT, ?_⟩
    cases e : cat n with
    | false =>
      rw [pick_no e] at q
      rw [if_neg (by decide)]
      exact pick_wish k s rel hx hT r q
    | true =>
      rw [pick_yes e] at q
      rw [if_pos rfl]
      intro a na
      refine ⟨⟨n, C, hT, rfl⟩, ?_⟩
      cases i with
      | none => exact ⟨B, G', δ', E, rel, q a (.ref C) d, k.mono s⟩
      | some i => exact ⟨B, G', _, _, rel.set (i := i) (c := .xc a (.ref C) d (excD n fs)) ⟨rfl, hx.1⟩ (fun _ m => nomatch m), q a (.ref C) d, ends_clear k s i⟩
theorem jsx_tryM {body : List Stmt} {h₀ : ExceptHandler} {hds : List ExceptHandler} {m : List CD} {wb : DTS} {pos : Pos} (tl : TLok X.K TL) (hs : X.stack = X.env :: X.outer) (hf : X.env.frame = some X.env.locals) (hN : X.N.Nodup)
    (hb : ∀ (pn : List (Addr × Obj)) (xe : Value → Shared → Prop), PassesOwn (model X.prog X.w) X.A X.env xe → JSsX (X.tr pn xe) TL body wb) (hh : ClsD X TL (h₀ :: hds) m) : JSX X TL (.Try body (h₀ :: hds) [] [] pos) (wTryM m wb) := ⟨fun pins s σ H D I ⟨B, G, δ, E, rel, hw, k⟩ => by
  obtain ⟨l, ok, pr⟩ := clsD_ok hh
  refine (ps_try_cls (W := wxOf X.K TL B G E.rt) (tb := fun W D σ H => ∃ B G δ E, Rel X.K B G δ σ H ∧ wb E δ ∧ EndsOk X.K B G E D ∧ ∀ cls d σ' H', wxOf X.K TL B G E.rt cls d σ' H' → W cls d σ' H') hs hf hN k.tk (fun W pn xe tk po => ?_) ok).run pins s σ H D I ?_
  · exact pss_le (hb pn xe po) fun pins s σ H D I ⟨B, G, δ, E, rel, hw, k, wx⟩ => ⟨B, G, δ, E, rel, hw, k, tk.imp wx⟩
  · refine ⟨B, G, δ, tryM m E, rel, hw, ⟨k.nx, fun v σ' H' G' x δ' q sG rel' dn => k.rt v σ' H' G' x δ' (onX_no (show onX x (fun x => E.rt x δ') (fun n fs => pickX m n fs E δ') .mk from q) fun n fs e => by rw [e] at dn; exact dn_notX dn) sG rel' dn, k.bk, k.ct⟩, ?_⟩
    rintro cls d σ' H' ⟨G', δ', x, q, sG, rel', hx⟩
    obtain ⟨⟨n0, C, fs, rfl, rfl, hn0, hd⟩, n1, C1, hT, e⟩ := id hx
    cases e
    have e2 := (tl n1 C hT).nm
    have : n0 = n1 := by
      rw [hn0] at e2
      exact Option.some.inj e2
    subst this
    exact pick_wish k.toEndsOk sG rel' hx hT pr (onX_yes (show onX (excD n0 fs) (fun x => E.rt x δ') (fun n fs => pickX m n fs E δ') .mk from q))⟩
end
end DL
set_option Elab.async false
set_option linter.all false
set_option maxRecDepth 100000
set_option maxHeartbeats 4000000
namespace DL
open PySem PySem.Spec PyProof.Rows L2
variable [Tb]
def pLeT : P2 := fun x y R => match x, y with
  | .int i, .int j => R (.bool (decide (i ≤ j)))
  | .tuple xs, .tuple ys => (noOL xs = true ∧ noOL ys = true) ∧ W.alike (.tuple xs) (.tuple ys) = true ∧ (PyData.tuple xs).depth ≤ 50 ∧ R (.bool (!W.dataLt (.tuple ys) (.tuple xs)))
  | _, _ => False
section
variable {X : Cx}
end
omit [Tb] in
@[simp ↓] theorem pLeT_ii (i j : Int) (R : PyData → Prop) : pLeT (.int i) (.int j) R = R (.bool (decide (i ≤ j))) := rfl
omit [Tb] in
@[simp ↓] theorem pLeT_tt (xs ys : List PyData) (R : PyData → Prop) : pLeT (.tuple xs) (.tuple ys) R = ((noOL xs = true ∧ noOL ys = true) ∧ W.alike (.tuple xs) (.tuple ys) = true ∧ (PyData.tuple xs).depth ≤ 50 ∧ R (.bool (!W.dataLt (.tuple ys) (.tuple xs)))) := rfl
end DL
set_option Elab.async false
set_option linter.all false
set_option maxRecDepth 100000
set_option maxHeartbeats 4000000
namespace DL
open PySem PySem.Spec PyProof.Rows L2
variable [Tb]
def wIfL (t : DT) (la lb : DL) : DL := fun δ R => t δ fun k δ1 => if k = true then la δ1 R else lb δ1 R
omit [Tb] in
@[simp ↓] theorem wIfL_ap (t : DT) (la lb : DL) (δ : DS) (R : List PyData → DS → Prop) : wIfL t la lb δ R = (t δ fun k δ1 => if k = true then la δ1 R else lb δ1 R) := rfl
end DL
set_option Elab.async false
set_option linter.all false
set_option maxRecDepth 100000
set_option maxHeartbeats 4000000
namespace DL
open PySem PySem.Spec PyProof.Rows L2
variable [Tb]
open PySem.SeqAt
open AutoSeq1 (wpAny_loadPart')
open MeetsSeq
def IsD (h : Heap) (a : Addr) : Prop := ∃ o es n, h.get? a = some o ∧ o.cls = .type "dict" ∧ o.data = .dict es n
section
variable {A : Around} {s : Shared} {l b : Addr} {es : Array DictEntry} {its : Array Value} {n m : Nat} {dd de : Option Addr} {sl sm : Array (Option Value)}
abbrev DictAt (h : Heap) (l : Addr) (es : Array DictEntry) (n : Nat) (dd : Option Addr) (sl : Array (Option Value)) : Prop := h.get? l = some { cls := .type "dict", dict := dd, data := .dict es n, slots := sl }
abbrev RowAt (T : String) (h : Heap) (b : Addr) (its : Array Value) (m : Nat) (de : Option Addr) (sm : Array (Option Value)) : Prop := h.get? b = some { cls := .type T, dict := de, data := .seq its m, slots := sm }
theorem away_none : Meets (Builtin.«dict.__eq__» ⟨[.ref l, .none], []⟩) (fun _ R z => DictAt z.heap l es n dd sl ∧ R (.ok (.ret .notImplemented)) z) := by
  refine .of_wp fun prog w A R ⟨hp, gs, dr, tk, os⟩ h => ?_
  have away := F.sub_NoneType_dict
  obtain ⟨at_l, h⟩ := h
  wp_walk using wpAny_loadPart' at_l
  exact ⟨_, rfl, h⟩
theorem away_bool (x : Bool) : Meets (Builtin.«dict.__eq__» ⟨[.ref l, .bool x], []⟩) (fun _ R z => DictAt z.heap l es n dd sl ∧ R (.ok (.ret .notImplemented)) z) := by
  refine .of_wp fun prog w A R ⟨hp, gs, dr, tk, os⟩ h => ?_
  have away := F.sub_bool_dict
  obtain ⟨at_l, h⟩ := h
  wp_walk using wpAny_loadPart' at_l
  exact ⟨_, rfl, h⟩
theorem away_int (x : Int) (u : Tok) : Meets (Builtin.«dict.__eq__» ⟨[.ref l, .int x u], []⟩) (fun _ R z => DictAt z.heap l es n dd sl ∧ R (.ok (.ret .notImplemented)) z) := by
  refine .of_wp fun prog w A R ⟨hp, gs, dr, tk, os⟩ h => ?_
  have away := F.sub_int_dict
  obtain ⟨at_l, h⟩ := h
  wp_walk using wpAny_loadPart' at_l
  exact ⟨_, rfl, h⟩
theorem away_str (x : Str) (u : Tok) : Meets (Builtin.«dict.__eq__» ⟨[.ref l, .str x u], []⟩) (fun _ R z => DictAt z.heap l es n dd sl ∧ R (.ok (.ret .notImplemented)) z) := by
  refine .of_wp fun prog w A R ⟨hp, gs, dr, tk, os⟩ h => ?_
  have away := F.sub_str_dict
  obtain ⟨at_l, h⟩ := h
  wp_walk using wpAny_loadPart' at_l
  exact ⟨_, rfl, h⟩
theorem bool_away (x : Bool) : Meets (Builtin.«int.__eq__» ⟨[.bool x, .ref l], []⟩) (fun _ R z => DictAt z.heap l es n dd sl ∧ R (.ok (.ret .notImplemented)) z) := by
  refine .of_wp fun prog w A R ⟨hp, gs, dr, tk, os⟩ h => ?_
  obtain ⟨at_l, h⟩ := h
  wp_walk using wpAny_loadPart' at_l, wpAny_load at_l
  exact ⟨_, rfl, h⟩
theorem int_away (x : Int) (u : Tok) : Meets (Builtin.«int.__eq__» ⟨[.int x u, .ref l], []⟩) (fun _ R z => DictAt z.heap l es n dd sl ∧ R (.ok (.ret .notImplemented)) z) := by
  refine .of_wp fun prog w A R ⟨hp, gs, dr, tk, os⟩ h => ?_
  obtain ⟨at_l, h⟩ := h
  wp_walk using wpAny_loadPart' at_l, wpAny_load at_l
  exact ⟨_, rfl, h⟩
theorem str_away (x : Str) (u : Tok) : Meets (Builtin.«str.__eq__» ⟨[.str x u, .ref l], []⟩) (fun _ R z => DictAt z.heap l es n dd sl ∧ R (.ok (.ret .notImplemented)) z) := by
  refine .of_wp fun prog w A R ⟨hp, gs, dr, tk, os⟩ h => ?_
  obtain ⟨at_l, h⟩ := h
  wp_walk using wpAny_loadPart' at_l, wpAny_load at_l
  exact ⟨_, rfl, h⟩
theorem away_list : Meets (Builtin.«dict.__eq__» ⟨[.ref l, .ref b], []⟩) (fun _ R z => DictAt z.heap l es n dd sl ∧ RowAt "list" z.heap b its m de sm ∧ R (.ok (.ret .notImplemented)) z) := by
  refine .of_wp fun prog w A R ⟨hp, gs, dr, tk, os⟩ h => ?_
  have away := F.sub_list_dict
  obtain ⟨at_l, at_b, h⟩ := h
  wp_walk using wpAny_loadPart' at_l, wpAny_loadPart' at_b
  exact ⟨_, rfl, h⟩
theorem list_away : Meets (Builtin.«list.__eq__» ⟨[.ref b, .ref l], []⟩) (fun _ R z => DictAt z.heap l es n dd sl ∧ RowAt "list" z.heap b its m de sm ∧ R (.ok (.ret .notImplemented)) z) := by
  refine .of_wp fun prog w A R ⟨hp, gs, dr, tk, os⟩ h => ?_
  have away := F.sub_dict_list
  obtain ⟨at_l, at_b, h⟩ := h
  wp_walk using wpAny_loadPart' at_b, wpAny_loadPart' at_l
  exact ⟨_, rfl, h⟩
theorem away_tuple : Meets (Builtin.«dict.__eq__» ⟨[.ref l, .ref b], []⟩) (fun _ R z => DictAt z.heap l es n dd sl ∧ RowAt "tuple" z.heap b its m de sm ∧ R (.ok (.ret .notImplemented)) z) := by
  refine .of_wp fun prog w A R ⟨hp, gs, dr, tk, os⟩ h => ?_
  have away := F.sub_tuple_dict
  obtain ⟨at_l, at_b, h⟩ := h
  wp_walk using wpAny_loadPart' at_l, wpAny_loadPart' at_b
  exact ⟨_, rfl, h⟩
theorem tuple_away : Meets (Builtin.«tuple.__eq__» ⟨[.ref b, .ref l], []⟩) (fun _ R z => DictAt z.heap l es n dd sl ∧ RowAt "tuple" z.heap b its m de sm ∧ R (.ok (.ret .notImplemented)) z) := by
  refine .of_wp fun prog w A R ⟨hp, gs, dr, tk, os⟩ h => ?_
  have away := F.sub_dict_tuple
  obtain ⟨at_l, at_b, h⟩ := h
  wp_walk using wpAny_loadPart' at_b, wpAny_loadPart' at_l
  exact ⟨_, rfl, h⟩
theorem differs {v : Value} {T id : String} (at_l : DictAt s.heap l es n dd sl) (ty : s.TypeIs v T) (ne : (Value.type T != Value.type "dict") = true) (sub : isSubtype (.type "dict") (.type T) = pure false) (slot : Slot T (cmpInfo .Eq).2.1 id) (room : A.units < cLine)
    (mine : ∀ (prog : Program) (w : World) (E Q : Value → Shared → Prop), Q .notImplemented s → wpAny (model prog w) A (call (.builtin id) [v, .ref l]) Q E s)
    (dicts : ∀ (prog : Program) (w : World) (E Q : Value → Shared → Prop), Q .notImplemented s → wpAny (model prog w) A (call (.builtin "dict.__eq__") [.ref l, v]) Q E s)
    (same : ∀ (prog : Program) (w : World) (E : Value → Shared → Prop) (Q : Bool → Shared → Prop), Q false s → wpAny (model prog w) A (isSame v (.ref l)) Q E s) : RcAt A s v (.ref l) false :=
  fun prog w E Q h => by
    exact rc_eq_decline_or (k := false) ty ⟨_, at_l, rfl⟩ ne sub slot F.slot_dict_eq_refl (mine prog w E) (dicts prog w E) (same prog w E) (.inr room) h
theorem differs_flat {v : Value} (flat : v = .none ∨ (∃ x, v = .bool x) ∨ (∃ x u, v = .int x u) ∨ ∃ x u, v = .str x u) (rc : RcAt A s v (.ref l) false) : EqAt A s v (.ref l) false := fun prog w E Q h => by
  have go : wpAny (model prog w) A (richCompare .Eq v (.ref l)) (fun r z => wpAny (model prog w) A (truthOfDropped r) Q E z) E s := rc prog w E _ (wpAny_truthy_bool h)
  delta eqBool
  rcases flat with rfl | ⟨_, rfl⟩ | ⟨_, _, rfl⟩ | ⟨_, _, rfl⟩ <;> exact wpAny_holding (wpAny_ite_split (fun e => absurd (eq_of_beq e) nofun) fun _ => wpAny_bind go)
theorem IsD.at {h : Heap} (d : IsD h l) : ∃ dd es n sl, DictAt h l es n dd sl := by
  obtain ⟨⟨_, dd, _, sl⟩, es, n, at_l, rfl, rfl⟩ := d
  exact ⟨dd, es, n, sl, at_l⟩
theorem dict_says {v : Value} {x : Shared} (at_l : DictAt s.heap l es n dd sl) {prog : Program} {w : World} {E Q : Value → Shared → Prop} {S : PySem.Spec} (own : Meets (Builtin.«dict.__eq__» ⟨[.ref l, v], []⟩) S) (h : S A (wants Q E) s) :
    wpAny (model prog w) A (call (.builtin "dict.__eq__") [.ref l, v]) Q E s :=
  call_meets F.slot_dict_eq_refl ⟨_, at_l, rfl⟩ F.entry_dict_eq (F.args_dict_eq_2 _ _) own h
theorem eq_NoneType_dict (d : IsD s.heap l) (room : A.units < cLine) : EqAt A s .none (.ref l) false := by
  obtain ⟨dd, es, n, sl, at_l⟩ := d.at
  exact differs_flat (.inl rfl) (differs at_l (T := "NoneType") rfl (by decide) F.sub_dict_NoneType F.slot_NoneType_eq room (fun _ _ _ _ q => call_gives F.slot_NoneType_eq rfl F.entry_NoneType_eq (F.args_NoneType_eq_2 _ _) (NoneType___eq___none_ref_0 l) q)
    (fun _ _ _ _ q => dict_says (x := s) at_l away_none ⟨at_l, q⟩) fun _ _ _ _ q => wpAny_of_eq (rfl : isSame .none (.ref l) = pure false) q)
theorem eq_bool_dict (x : Bool) (d : IsD s.heap l) (room : A.units < cLine) : EqAt A s (.bool x) (.ref l) false := by
  obtain ⟨dd, es, n, sl, at_l⟩ := d.at
  exact differs_flat (.inr (.inl ⟨_, rfl⟩)) (differs at_l (T := "bool") rfl (by decide) F.sub_dict_bool F.slot_bool_eq room (fun _ _ _ _ q => call_meets F.slot_bool_eq rfl F.entry_int_eq (F.args_int_eq_2 _ _) (bool_away x) ⟨at_l, q⟩)
    (fun _ _ _ _ q => dict_says (x := s) at_l (away_bool x) ⟨at_l, q⟩) fun _ _ _ _ q => wpAny_of_eq (rfl : isSame (.bool x) (.ref l) = pure false) q)
theorem eq_int_dict (x : Int) (u : Tok) (d : IsD s.heap l) (room : A.units < cLine) : EqAt A s (.int x u) (.ref l) false := by
  obtain ⟨dd, es, n, sl, at_l⟩ := d.at
  exact differs_flat (.inr (.inr (.inl ⟨_, _, rfl⟩))) (differs at_l (typeIs_int s x u) (by decide) F.sub_dict_int F.slot_int_eq room (fun _ _ _ _ q => call_meets F.slot_int_eq (typeIs_int s x u) F.entry_int_eq (F.args_int_eq_2 _ _) (int_away x u) ⟨at_l, q⟩)
    (fun _ _ _ _ q => dict_says (x := s) at_l (away_int x u) ⟨at_l, q⟩) fun _ _ _ _ q => wpAny_of_eq (rfl : isSame (.int x u) (.ref l) = pure false) q)
theorem eq_str_dict (x : Str) (u : Tok) (d : IsD s.heap l) (room : A.units < cLine) : EqAt A s (.str x u) (.ref l) false := by
  obtain ⟨dd, es, n, sl, at_l⟩ := d.at
  exact differs_flat (.inr (.inr (.inr ⟨_, _, rfl⟩))) (differs at_l (typeIs_str s x u) (by decide) F.sub_dict_str F.slot_str_eq room (fun _ _ _ _ q => call_meets F.slot_str_eq (typeIs_str s x u) F.entry_str_eq (F.args_str_eq_2 _ _) (str_away x u) ⟨at_l, q⟩)
    (fun _ _ _ _ q => dict_says (x := s) at_l (away_str x u) ⟨at_l, q⟩) fun _ _ _ _ q => wpAny_of_eq (rfl : isSame (.str x u) (.ref l) = pure false) q)
theorem elsewhere {T : String} (t : T ≠ "dict") (at_b : RowAt T s.heap b its m de sm) (at_l : DictAt s.heap l es n dd sl) : b ≠ l := by
  rintro rfl
  have e := at_b.symm.trans at_l
  simp only [Option.some.injEq, Obj.mk.injEq, Value.type.injEq] at e
  exact t e.1
theorem eq_list_dict (p : s.heap.IsList b its) (d : IsD s.heap l) (room : A.units < cLine) : EqAt A s (.ref b) (.ref l) false := by
  obtain ⟨dd, es, n, sl, at_l⟩ := d.at
  obtain ⟨⟨_, de, _, sm⟩, at_b, rfl, m, rfl⟩ := p
  have apart := elsewhere (T := "list") (by decide) at_b at_l
  exact .of_refs apart (differs at_l ⟨_, at_b, rfl⟩ (by decide) F.sub_dict_list F.slot_list_eq room (fun _ _ _ _ q => call_meets F.slot_list_eq ⟨_, at_b, rfl⟩ F.entry_list_eq (F.args_list_eq_2 _ _) list_away ⟨at_l, at_b, q⟩)
    (fun _ _ _ _ q => dict_says (x := s) at_l away_list ⟨at_l, at_b, q⟩) fun _ _ _ _ q => wpAny_isSame_ref_other' apart at_b at_l (by simp) q)
theorem eq_tuple_dict (p : s.heap.IsTuple b its) (d : IsD s.heap l) (room : A.units < cLine) : EqAt A s (.ref b) (.ref l) false := by
  obtain ⟨dd, es, n, sl, at_l⟩ := d.at
  obtain ⟨⟨_, de, _, sm⟩, at_b, rfl, m, rfl⟩ := p
  have apart := elsewhere (T := "tuple") (by decide) at_b at_l
  exact .of_refs apart (differs at_l ⟨_, at_b, rfl⟩ (by decide) F.sub_dict_tuple F.slot_tuple_eq room (fun _ _ _ _ q => call_meets F.slot_tuple_eq ⟨_, at_b, rfl⟩ F.entry_tuple_eq (F.args_tuple_eq_2 _ _) tuple_away ⟨at_l, at_b, q⟩)
    (fun _ _ _ _ q => dict_says (x := s) at_l away_tuple ⟨at_l, at_b, q⟩) fun _ _ _ _ q => wpAny_isSame_ref_other' apart at_b at_l (by simp) q)
end
end DL
set_option Elab.async false
set_option linter.all false
set_option maxRecDepth 100000
set_option maxHeartbeats 4000000
namespace DL
open PySem PySem.Spec PyProof.Rows L2
variable [Tb]
open PySem.SeqAt
theorem reads_list {h : Heap} {v : Value} {xs : List PyData} {as : List Addr} (r : Reads h v (.list xs) as) : ∃ a vs bs, v = .ref a ∧ h.IsList a vs ∧ vs.size = xs.length ∧ ReadsAll h vs.toList xs bs := by
  cases r with
  | list at_a cl dt rs => exact ⟨_, _, _, rfl, ⟨_, at_a, cl, _, dt⟩, (Array.length_toList).symm.trans (ReadsAll.length _ _ _ rs), rs⟩
theorem reads_tuple {h : Heap} {v : Value} {xs : List PyData} {as : List Addr} (r : Reads h v (.tuple xs) as) : ∃ a vs bs, v = .ref a ∧ h.IsTuple a vs ∧ vs.size = xs.length ∧ ReadsAll h vs.toList xs bs := by
  cases r with
  | tuple at_a cl dt rs => exact ⟨_, _, _, rfl, ⟨_, at_a, cl, _, dt⟩, (Array.length_toList).symm.trans (ReadsAll.length _ _ _ rs), rs⟩
theorem eqAt_kinds {A : Around} {s : Shared} {a b : Value} {as bs : List Addr} (da db : PyData) (ra : Reads s.heap a da as) (rb : Reads s.heap b db bs) (lay : da.canLay0 = true) (room : A.units < cLine) (new : ¬ db.canLay0 = true)
    (other : (∀ xs ys, ¬ (da = .list xs ∧ db = .list ys)) ∧ ∀ xs ys, ¬ (da = .tuple xs ∧ db = .tuple ys)) : EqAt A s a b (PyData.eqv da db) := by
  cases rb with
  | none => exact absurd rfl new
  | bool => exact absurd rfl new
  | int => exact absurd rfl new
  | str y u => cases ra with
    | none => exact .none_str y u
    | bool x => exact .bool_str x y u
    | int x t => exact .int_str x t y u
    | str x t => exact .str_str x t y u
    | list h1 h2 h3 => exact .list_str y u ⟨_, h1, h2, _, h3⟩ room
    | tuple h1 h2 h3 => exact .tuple_str y u ⟨_, h1, h2, _, h3⟩ room
    | dict => exact absurd lay Bool.false_ne_true
  | list k1 k2 k3 _ => cases ra with
    | none => exact EqAt.none_list ⟨_, k1, k2, _, k3⟩ room
    | bool x => exact EqAt.bool_list x ⟨_, k1, k2, _, k3⟩ room
    | int x t => exact EqAt.int_list x t ⟨_, k1, k2, _, k3⟩ room
    | str x t => exact EqAt.str_list x t ⟨_, k1, k2, _, k3⟩ room
    | tuple h1 h2 h3 => exact EqAt.tuple_list ⟨_, h1, h2, _, h3⟩ ⟨_, k1, k2, _, k3⟩ room
    | list => exact absurd ⟨rfl, rfl⟩ (other.1 _ _)
    | dict => exact absurd lay Bool.false_ne_true
  | tuple k1 k2 k3 _ => cases ra with
    | none => exact EqAt.none_tuple ⟨_, k1, k2, _, k3⟩ room
    | bool x => exact EqAt.bool_tuple x ⟨_, k1, k2, _, k3⟩ room
    | int x t => exact EqAt.int_tuple x t ⟨_, k1, k2, _, k3⟩ room
    | str x t => exact EqAt.str_tuple x t ⟨_, k1, k2, _, k3⟩ room
    | list h1 h2 h3 => exact EqAt.list_tuple ⟨_, h1, h2, _, h3⟩ ⟨_, k1, k2, _, k3⟩ room
    | tuple => exact absurd ⟨rfl, rfl⟩ (other.2 _ _)
    | dict => exact absurd lay Bool.false_ne_true
  | dict k1 k2 k3 => cases ra with
    | none => exact eq_NoneType_dict ⟨_, _, _, k1, k2, k3⟩ room
    | bool x => exact eq_bool_dict x ⟨_, _, _, k1, k2, k3⟩ room
    | int x t => exact eq_int_dict x t ⟨_, _, _, k1, k2, k3⟩ room
    | str x t => exact eq_str_dict x t ⟨_, _, _, k1, k2, k3⟩ room
    | list h1 h2 h3 => exact eq_list_dict ⟨_, h1, h2, _, h3⟩ ⟨_, _, _, k1, k2, k3⟩ room
    | tuple h1 h2 h3 => exact eq_tuple_dict ⟨_, h1, h2, _, h3⟩ ⟨_, _, _, k1, k2, k3⟩ room
    | dict => exact absurd lay Bool.false_ne_true
def Pairwise2 (A : Around) (s : Shared) (vs us : Array Value) (xs ys : List PyData) : Prop := ∀ j (h1 : j < vs.size) (h2 : j < us.size), EqAt A s vs[j] us[j] (pairEq xs ys j)
theorem eqAt_lists {A : Around} {s : Shared} {l l' : Addr} {vs us : Array Value} {xs ys : List PyData} (apart : l ≠ l') (p : s.heap.IsList l vs) (p' : s.heap.IsList l' us) (n : vs.size = xs.length) (n' : us.size = ys.length) (room : A.units < cLine)
    (each : Pairwise2 A.in1 s vs us xs ys) : EqAt A s (.ref l) (.ref l') (PyData.eqvAll xs ys) := by
  refine EqAt.of_refs apart ?_
  by_cases same : xs.length = ys.length
  · have go := RcAt.lists p p' (n.trans (same.trans n'.symm)) room each
    rwa [n, eqvAll_same_length same] at go
  · rw [eqvAll_other_length same]
    exact RcAt.lists_lengths p p' (by rw [n, n']; simpa using same) room
theorem eqAt_tuples {A : Around} {s : Shared} {l l' : Addr} {vs us : Array Value} {xs ys : List PyData} (apart : l ≠ l') (p : s.heap.IsTuple l vs) (p' : s.heap.IsTuple l' us) (n : vs.size = xs.length) (n' : us.size = ys.length) (room : A.units < cLine)
    (each : Pairwise2 A.in1 s vs us xs ys) : EqAt A s (.ref l) (.ref l') (PyData.eqvAll xs ys) := by
  have go := RcAt.tuples p p' room each
  rw [n, n', eqvAll_eq] at go
  exact EqAt.of_refs apart go
theorem eqAt_rest {A : Around} {s : Shared} {a b : Value} {as bs : List Addr} {da db : PyData} (ra : Reads s.heap a da as) (rb : Reads s.heap b db bs) (lay : da.canLay0 = true) (room : A.units + da.depth < cLine)
    (other : (∀ xs ys, ¬ (da = .list xs ∧ db = .list ys)) ∧ ∀ xs ys, ¬ (da = .tuple xs ∧ db = .tuple ys)) : EqAt A s a b (PyData.eqv da db) := by
  by_cases told : db.canLay0 = true
  · exact eqAt_reads da db A s a b as bs ra rb lay told (by omega)
  · exact eqAt_kinds da db ra rb lay (by omega) told other
mutual
theorem eqAt_any : ∀ (da db : PyData) {A : Around} {s : Shared} {a b : Value} {as bs : List Addr}, Reads s.heap a da as → Reads s.heap b db bs → da.canLay0 = true → A.units + da.depth < cLine → EqAt A s a b (PyData.eqv da db)
  | .list xs, db, A, s, a, b, as, bs, ra, rb, lay, room => by
    rcases Classical.em (∃ ys, db = .list ys) with ⟨ys, rfl⟩ | no
    · obtain ⟨l, vs, _, rfl, p, n, rs⟩ := reads_list ra
      obtain ⟨l', us, _, rfl, p', n', rs'⟩ := reads_list rb
      by_cases e : l = l'
      · subst e
        cases Reads.unique (.list xs) (.list ys) _ _ _ lay ra rb
        rw [show PyData.eqv (.list xs) (.list xs) = true from eqvAll_refl xs lay]
        exact EqAt.same _
      · rw [PyData.depth] at room
        exact eqAt_lists e p p' n n' (by omega) fun j h1 h2 => eqAt_anys xs ys rs rs' lay (show A.units + 1 + _ < _ by omega) j h1 h2
    · exact eqAt_rest ra rb lay room ⟨fun _ ys z => no ⟨ys, z.2⟩, fun _ _ z => nomatch z.1⟩
  | .tuple xs, db, A, s, a, b, as, bs, ra, rb, lay, room => by
    rcases Classical.em (∃ ys, db = .tuple ys) with ⟨ys, rfl⟩ | no
    · obtain ⟨l, vs, _, rfl, p, n, rs⟩ := reads_tuple ra
      obtain ⟨l', us, _, rfl, p', n', rs'⟩ := reads_tuple rb
      by_cases e : l = l'
      · subst e
        cases Reads.unique (.tuple xs) (.tuple ys) _ _ _ lay ra rb
        rw [show PyData.eqv (.tuple xs) (.tuple xs) = true from eqvAll_refl xs lay]
        exact EqAt.same _
      · rw [PyData.depth] at room
        exact eqAt_tuples e p p' n n' (by omega) fun j h1 h2 => eqAt_anys xs ys rs rs' lay (show A.units + 1 + _ < _ by omega) j h1 h2
    · exact eqAt_rest ra rb lay room ⟨(fun _ _ z => nomatch z.1), fun _ ys z => no ⟨ys, z.2⟩⟩
  | .none, _, _, _, _, _, _, _, ra, rb, lay, room => eqAt_rest ra rb lay room ⟨(fun _ _ z => nomatch z.1), (fun _ _ z => nomatch z.1)⟩
  | .bool _, _, _, _, _, _, _, _, ra, rb, lay, room => eqAt_rest ra rb lay room ⟨(fun _ _ z => nomatch z.1), (fun _ _ z => nomatch z.1)⟩
  | .int _, _, _, _, _, _, _, _, ra, rb, lay, room => eqAt_rest ra rb lay room ⟨(fun _ _ z => nomatch z.1), (fun _ _ z => nomatch z.1)⟩
  | .str _, _, _, _, _, _, _, _, ra, rb, lay, room => eqAt_rest ra rb lay room ⟨(fun _ _ z => nomatch z.1), (fun _ _ z => nomatch z.1)⟩
  | .dict _, _, _, _, _, _, _, _, _, _, lay, _ => nomatch lay
theorem eqAt_anys : ∀ (xs ys : List PyData) {A : Around} {s : Shared} {vs us : List Value} {as bs : List Addr}, ReadsAll s.heap vs xs as → ReadsAll s.heap us ys bs → PyData.canLayAll0 xs = true → A.units + PyData.depthAll xs < cLine →
    ∀ j (h1 : j < vs.length) (h2 : j < us.length), EqAt A s vs[j] us[j] (pairEq xs ys j)
  | [], _, _, _, _, _, _, _, .nil, _, _, _, _, h1, _ => nomatch h1
  | _ :: _, [], _, _, _, _, _, _, _, .nil, _, _, _, _, h2 => nomatch h2
  | x :: xs, y :: ys, _, _, _, _, _, _, .cons r rs, .cons r' rs', lay, room, j, h1, h2 => by
    rw [PyData.canLayAll0, Bool.and_eq_true] at lay
    rw [PyData.depthAll] at room
    cases j with
    | zero => exact eqAt_any x y r r' lay.1 (by omega)
    | succ j => exact eqAt_anys xs ys rs rs' lay.2 (by omega) j (Nat.lt_of_succ_lt_succ h1) (Nat.lt_of_succ_lt_succ h2)
end
def pInX : P2 := fun x y R => match y with
  | .list ds => noO x = true ∧ SeqAt.shaped (.list ds) = true ∧ R (.bool (ds.any fun z => PyData.eqv z x))
  | .tuple ds => noO x = true ∧ SeqAt.shaped (.tuple ds) = true ∧ R (.bool (ds.any fun z => PyData.eqv z x))
  | _ => False
def pEqE : P2 := fun x y R => match x, y with
  | .tuple xs, .tuple [] => noOL xs = true ∧ R (.bool xs.isEmpty)
  | .list xs, .list [] => noOL xs = true ∧ R (.bool xs.isEmpty)
  | _, _ => False
def pNeE : P2 := fun x y R => match x, y with
  | .tuple xs, .tuple [] => noOL xs = true ∧ R (.bool (!xs.isEmpty))
  | .list xs, .list [] => noOL xs = true ∧ R (.bool (!xs.isEmpty))
  | _, _ => False
omit [Tb] in
@[simp ↓] theorem pEqE_t (xs : List PyData) (R : PyData → Prop) : pEqE (.tuple xs) (.tuple []) R = (noOL xs = true ∧ R (.bool xs.isEmpty)) := rfl
omit [Tb] in
@[simp ↓] theorem pEqE_l (xs : List PyData) (R : PyData → Prop) : pEqE (.list xs) (.list []) R = (noOL xs = true ∧ R (.bool xs.isEmpty)) := rfl
omit [Tb] in
@[simp ↓] theorem pNeE_t (xs : List PyData) (R : PyData → Prop) : pNeE (.tuple xs) (.tuple []) R = (noOL xs = true ∧ R (.bool (!xs.isEmpty))) := rfl
omit [Tb] in
@[simp ↓] theorem pNeE_l (xs : List PyData) (R : PyData → Prop) : pNeE (.list xs) (.list []) R = (noOL xs = true ∧ R (.bool (!xs.isEmpty))) := rfl
omit [Tb] in
@[simp ↓] theorem pInX_l (x : PyData) (ds : List PyData) (R : PyData → Prop) : pInX x (.list ds) R = (noO x = true ∧ SeqAt.shaped (.list ds) = true ∧ R (.bool (ds.any fun z => PyData.eqv z x))) := rfl
omit [Tb] in
@[simp ↓] theorem pInX_t (x : PyData) (ds : List PyData) (R : PyData → Prop) : pInX x (.tuple ds) R = (noO x = true ∧ SeqAt.shaped (.tuple ds) = true ∧ R (.bool (ds.any fun z => PyData.eqv z x))) := rfl
section
variable {X : Cx}
end
end DL
set_option Elab.async false
set_option linter.all false
set_option maxRecDepth 100000
set_option maxHeartbeats 4000000
namespace DL
open PySem PySem.Spec PyProof.Rows L2
variable [Tb]
def stC (x : PyData) (k : Str → Prop) : Prop := match x with
  | .str z => k z
  | _ => False
omit [Tb] in
@[simp ↓] theorem stC_s (z : Str) (k : Str → Prop) : stC (.str z) k = k z := rfl
def wUpper (w : DE) : DE := fun δ R => w δ fun o δ1 => use o δ1 fun x => stC x fun z => z.length ≤ 1000000 ∧ R (.d (.str (Txt.upper z))) δ1
omit [Tb] in
@[simp ↓] theorem wUpper_ap (w : DE) (δ : DS) (R : Opd → DS → Prop) : wUpper w δ R = (w δ fun o δ1 => use o δ1 fun x => stC x fun z => z.length ≤ 1000000 ∧ R (.d (.str (Txt.upper z))) δ1) := rfl
section
variable {X : Cx}
end
end DL
set_option Elab.async false
set_option linter.all false
set_option maxRecDepth 100000
set_option maxHeartbeats 4000000
namespace DL
open PySem PySem.Spec PyProof.Rows L2
variable [Tb]
section
variable {X : Cx}
def rev0D (x : PyData) (k : PyData → Prop) : Prop := match x with
  | .tuple ds => 1 ≤ ds.length ∧ k (.tuple (ds.drop 1).reverse)
  | _ => False
omit [Tb] in
@[simp ↓] theorem rev0D_t (ds : List PyData) (k : PyData → Prop) : rev0D (.tuple ds) k = (1 ≤ ds.length ∧ k (.tuple (ds.drop 1).reverse)) := rfl
def wRev0 (w : DE) : DE := fun δ R => w δ fun o δ1 => use o δ1 fun x => rev0D x fun z => R (.d z) δ1
omit [Tb] in
@[simp ↓] theorem wRev0_ap (w : DE) (δ : DS) (R : Opd → DS → Prop) : wRev0 w δ R = (w δ fun o δ1 => use o δ1 fun x => rev0D x fun z => R (.d z) δ1) := rfl
end
def gTL (r : DTGs) : DTG := fun x δ R => match x with
  | .list xs => r xs δ R
  | _ => False
omit [Tb] in
@[simp ↓] theorem gTL_l (r : DTGs) (xs : List PyData) (δ : DS) (R : DS → Prop) : gTL r (.list xs) δ R = r xs δ R := rfl
section
variable {X : Cx} {pos : Pos}
end
section
variable {X : Cx}
end
end DL
set_option Elab.async false
set_option linter.all false
set_option maxRecDepth 100000
set_option maxHeartbeats 4000000
namespace DL
open PySem PySem.Spec PyProof.Rows L2
variable [Tb]
def strsC (x : PyData) (k : List Str → Prop) (_u : Stop k) : Prop := ∃ ys : List Str, x = .list (ys.map PyData.str) ∧ k ys
theorem strs_one {a b : List Str} (h : a.map PyData.str = b.map PyData.str) : a = b :=
  List.map_inj_right (f := PyData.str) (fun _ _ e => PyData.str.inj e) |>.mp h
omit [Tb] in
@[simp ↓] theorem strsC_l (ys : List Str) (k : List Str → Prop) (u : Stop k) : strsC (.list (ys.map PyData.str)) k u = k ys :=
  propext ⟨fun ⟨_, e, h⟩ => strs_one (PyData.list.inj e) ▸ h, fun h => ⟨ys, rfl, h⟩⟩
def wJoinC (a : Str) (w : DE) : DE := fun δ R => w δ fun o δ1 => use o δ1 fun x => strsC x (fun ys => (ys.map (·.length)).sum + ys.length * a.length ≤ 1000000 ∧ R (.d (.str (Txt.join a ys))) δ1) .mk
omit [Tb] in
@[simp ↓] theorem wJoinC_ap (a : Str) (w : DE) (δ : DS) (R : Opd → DS → Prop) : wJoinC a w δ R = (w δ fun o δ1 => use o δ1 fun x => strsC x (fun ys => (ys.map (·.length)).sum + ys.length * a.length ≤ 1000000 ∧ R (.d (.str (Txt.join a ys))) δ1) .mk) := rfl
section
variable {X : Cx}
theorem je_joinC {a : Str} {e : Expr} {w : DE} {kc : Nat} {pc apos cpos : Pos} (he : JE X e w) (hs : starEach [e] X.env = [(false, eval e X.env)] := by rfl)
    (hbase : attributeBase (.Constant (.str a) kc pc) "join" X.env (eval (.Constant (.str a) kc pc) X.env) = eval (.Constant (.str a) kc pc) X.env := by rfl) (hline : (apos.endLine == cpos.line) = true := by rfl) :
    JE X (.Call (.Attribute (.Constant (.str a) kc pc) "join" apos) [e] [] cpos) (wJoinC a w) :=
  pe_le (pe_join pe_str he hs hbase hline) fun pins s σ H Q I ⟨B, G, δ, R, rel, hw, k⟩ => ⟨⟨a, rfl⟩, B, G, δ, _, rel, hw, fun v H1 G1 o δ1 r1 s1 rel1 ok1 => by
    obtain ⟨x, ⟨ys, rfl, few, q⟩, b⟩ := use_ok rel1 ok1 r1
    obtain ⟨p, vs, rfl, hp, t⟩ := bor_lst rel1 b
    obtain rfl := t.toStrs
    exact ⟨a, p, ys, rfl, rfl, .inl (SqL.of hp), by omega, k _ H1 G1 _ _ q s1 rel1 (Dn.str _)⟩⟩
end
end DL
set_option Elab.async false
set_option linter.all false
set_option maxRecDepth 100000
set_option maxHeartbeats 4000000
namespace DL
open PySem PySem.Spec PyProof.Rows L2
variable [Tb]
def wSplitC (b : Str) (w : DE) : DE := fun δ R => w δ fun o δ1 => use o δ1 fun x => stC x fun z => z.length ≤ 1000000 ∧ R (.d (.list ((Txt.split z b).map PyData.str))) δ1
omit [Tb] in
@[simp ↓] theorem wSplitC_ap (b : Str) (w : DE) (δ : DS) (R : Opd → DS → Prop) : wSplitC b w δ R = (w δ fun o δ1 => use o δ1 fun x => stC x fun z => z.length ≤ 1000000 ∧ R (.d (.list ((Txt.split z b).map PyData.str))) δ1) := rfl
section
variable {X : Cx}
end
end DL
set_option Elab.async false
set_option linter.all false
set_option maxRecDepth 100000
set_option maxHeartbeats 4000000
namespace DL
open PySem PySem.Spec PyProof.Rows L2
variable [Tb]
def signs (z : Str) : List PyData := z.cps.toList.map fun c => .str ⟨#[c]⟩
def iStrD (w : DE) : DL := fun δ R => w δ fun o δ1 => use o δ1 fun x => stC x fun z => z.length ≤ 1000000 ∧ R (signs z) δ1
omit [Tb] in
@[simp ↓] theorem iStrD_ap (w : DE) (δ : DS) (R : List PyData → DS → Prop) : iStrD w δ R = (w δ fun o δ1 => use o δ1 fun x => stC x fun z => z.length ≤ 1000000 ∧ R (signs z) δ1) := rfl
section
variable {X : Cx} {tg : Expr}
end
end DL
set_option Elab.async false
set_option linter.all false
set_option maxRecDepth 100000
set_option maxHeartbeats 4000000
namespace DL
open PySem PySem.Spec PyProof.Rows L2
variable [Tb]
def repS (z : Str) (n : Nat) : Str := ⟨(List.replicate n z.cps).foldl (· ++ ·) #[]⟩
def pMulS : P2 := fun x y R => match x, y with
  | .str z, .int k => (2 ≤ k ∧ k ≤ 1000 ∧ 1 ≤ z.length ∧ z.length ≤ 1000) ∧ R (.str (repS z k.toNat))
  | _, _ => False
omit [Tb] in
@[simp ↓] theorem pMulS_si (z : Str) (k : Int) (R : PyData → Prop) : pMulS (.str z) (.int k) R = ((2 ≤ k ∧ k ≤ 1000 ∧ 1 ≤ z.length ∧ z.length ≤ 1000) ∧ R (.str (repS z k.toNat))) := rfl
section
variable {X : Cx}
end
end DL
set_option Elab.async false
set_option linter.all false
set_option maxRecDepth 100000
set_option maxHeartbeats 4000000
namespace DL
open PySem PySem.Spec PyProof.Rows L2
variable [Tb]
def obD (n : Str) (fs : List (Str × PyData)) : PyData := objD n fs
def putD1 (f : Str) (x : PyData) : List (Str × PyData) → List (Str × PyData)
  | [] => [(f, x)]
  | (g, y) :: r => if g = f then (g, x) :: r else (g, y) :: putD1 f x r
section
variable {K : PySem.W.Frag} {G : Hp}
def FldOk (K : PySem.W.Frag) (G : Hp) (ws : List (Str × V)) (fs : List (Str × PyData)) : Prop := ws.map (·.1) = fs.map (·.1) ∧ DnL K G (ws.map (·.2)) (fs.map (·.2))
theorem FldOk.nil : FldOk K G [] [] := ⟨rfl, .nil⟩
theorem FldOk.split {w : Str × V} {ws : List (Str × V)} {p : Str × PyData} {fs : List (Str × PyData)} (h : FldOk K G (w :: ws) (p :: fs)) : w.1 = p.1 ∧ Dn K G w.2 p.2 ∧ FldOk K G ws fs := by
  obtain ⟨h1, h2⟩ := h
  simp only [List.map_cons, List.cons.injEq] at h1 h2
  cases h2 with
  | cons a b => exact ⟨h1.1, a, h1.2, b⟩
theorem FldOk.join {w : Str × V} {ws : List (Str × V)} {p : Str × PyData} {fs : List (Str × PyData)} (h1 : w.1 = p.1) (h2 : Dn K G w.2 p.2) (h3 : FldOk K G ws fs) : FldOk K G (w :: ws) (p :: fs) := by
  refine ⟨?_, ?_⟩
  · simp only [List.map_cons, h1, h3.1]
  · exact .cons h2 h3.2
theorem FldOk.look {f : Str} {y : PyData} : ∀ {ws : List (Str × V)} {fs : List (Str × PyData)}, FldOk K G ws fs → fs.lookup f = some y → ∃ v, ws.lookup f = some v ∧ Dn K G v y
  | [], [], _, e => by cases e
  | [], _ :: _, h, _ => by cases h.1
  | _ :: _, [], h, _ => by cases h.1
  | (a, v) :: ws, (b, x) :: fs, h, e => by
    obtain ⟨h1, h2, h3⟩ := h.split
    have h1 : a = b := h1
    subst h1
    rw [List.lookup_cons] at e ⊢
    cases hb : f == a with
    | true => rw [hb] at e; cases e; exact ⟨v, rfl, h2⟩
    | false => rw [hb] at e; exact FldOk.look h3 e
theorem FldOk.none {f : Str} : ∀ {ws : List (Str × V)} {fs : List (Str × PyData)}, FldOk K G ws fs → fs.lookup f = none → ws.lookup f = none
  | [], [], _, _ => rfl
  | [], _ :: _, h, _ => by cases h.1
  | _ :: _, [], h, _ => by cases h.1
  | (a, v) :: ws, (b, x) :: fs, h, e => by
    obtain ⟨h1, _, h3⟩ := h.split
    have h1 : a = b := h1
    subst h1
    rw [List.lookup_cons] at e ⊢
    cases hb : f == a with
    | true => rw [hb] at e; cases e
    | false => rw [hb] at e; exact FldOk.none h3 e
theorem FldOk.put {f : Str} {v : V} {x : PyData} (hv : Dn K G v x) : ∀ {ws : List (Str × V)} {fs : List (Str × PyData)}, FldOk K G ws fs → FldOk K G (putF f v ws) (putD1 f x fs)
  | [], [], _ => .join rfl hv .nil
  | [], _ :: _, h => by cases h.1
  | _ :: _, [], h => by cases h.1
  | (a, u) :: ws, (b, y) :: fs, h => by
    obtain ⟨h1, h2, h3⟩ := h.split
    have h1 : a = b := h1
    subst h1
    unfold putF putD1
    split
    · exact .join rfl hv h3
    · exact .join rfl h2 (FldOk.put hv h3)
theorem FldOk.len {ws : List (Str × V)} {fs : List (Str × PyData)} (h : FldOk K G ws fs) : ws.length = fs.length := by
  have := congrArg List.length h.1
  simpa using this
end
def obC (x : PyData) (n : Str) (k : List (Str × PyData) → Prop) (_u : Stop k) : Prop := ∃ fs, x = obD n fs ∧ k fs
def fldC (x : PyData) (n f : Str) (k : PyData → Prop) (_u : Stop k) : Prop := ∃ fs y, x = obD n fs ∧ fs.lookup f = some y ∧ k y
def wFld (n f : Str) (w : DE) : DE := fun δ R => w δ fun o δ1 => use o δ1 fun x => fldC x n f (fun y => R (.d y) δ1) .mk
def ownC (c : Option Cell) (n : Str) (k : Addr → List (Str × PyData) → Prop) (_u : Stop k) : Prop := ∃ a fs, c = some (.ob a n fs) ∧ k a fs
def wFldO (i : Nat) (n f : Str) : DE := fun δ R => ownC δ[i]? n (fun _ fs => ∃ y, fs.lookup f = some y ∧ R (.d y) δ) .mk
def gA (i : Nat) (n f : Str) : DTG := fun x δ R => ownC δ[i]? n (fun a fs => fs.length < 900 ∧ R (δ.set i (.ob a n (putD1 f x fs)))) .mk
omit [Tb] in
@[simp ↓] theorem wFld_ap (n f : Str) (w : DE) (δ : DS) (R : Opd → DS → Prop) : wFld n f w δ R = (w δ fun o δ1 => use o δ1 fun x => fldC x n f (fun y => R (.d y) δ1) .mk) := rfl
omit [Tb] in
@[simp ↓] theorem wFldO_ap (i : Nat) (n f : Str) (δ : DS) (R : Opd → DS → Prop) : wFldO i n f δ R = ownC δ[i]? n (fun _ fs => ∃ y, fs.lookup f = some y ∧ R (.d y) δ) .mk := rfl
omit [Tb] in
@[simp ↓] theorem gA_ap (i : Nat) (n f : Str) (x : PyData) (δ : DS) (R : DS → Prop) : gA i n f x δ R = ownC δ[i]? n (fun a fs => fs.length < 900 ∧ R (δ.set i (.ob a n (putD1 f x fs)))) .mk := rfl
@[simp ↓] theorem ownC_some (a : Addr) (n : Str) (fs : List (Str × PyData)) (k : Addr → List (Str × PyData) → Prop) (u : Stop k) : ownC (some (.ob a n fs)) n k u = k a fs :=
  propext ⟨fun ⟨a', fs', e, h⟩ => by cases e; exact h, fun h => ⟨a, fs, rfl, h⟩⟩
theorem obD_inj {n : Str} {fs gs : List (Str × PyData)} (h : obD n fs = obD n gs) : fs = gs := by
  unfold obD at h
  simp only [PyData.dict.injEq, List.cons.injEq, true_and] at h
  have inj : ∀ {xs ys : List (Str × PyData)}, (xs.map fun p => (PyData.str p.1, p.2)) = (ys.map fun p => (PyData.str p.1, p.2)) → xs = ys := by
    intro xs
    induction xs with
    | nil => intro ys h; cases ys with | nil => rfl | cons y ys => cases h
    | cons x xs ih =>
      intro ys h
      cases ys with
      | nil => cases h
      | cons y ys =>
        simp only [List.map_cons, List.cons.injEq, Prod.mk.injEq, PyData.str.injEq] at h
        rw [ih h.2, Prod.ext h.1.1 h.1.2]
  exact inj h
theorem fldC_of {n f : Str} {fs : List (Str × PyData)} {y : PyData} {k : PyData → Prop} {u : Stop k} (hl : fs.lookup f = some y) : fldC (obD n fs) n f k u = k y :=
  propext ⟨fun ⟨fs', y', e, h1, h2⟩ => by
    have := obD_inj e
    subst this
    rw [hl] at h1
    cases h1
    exact h2, fun h => ⟨fs, y, rfl, hl, h⟩⟩
@[simp ↓] theorem obC_of {n : Str} {fs : List (Str × PyData)} {k : List (Str × PyData) → Prop} {u : Stop k} : obC (obD n fs) n k u = k fs :=
  propext ⟨fun ⟨fs', e, h⟩ => by rw [obD_inj e]; exact h, fun h => ⟨fs, rfl, h⟩⟩
theorem dn_ob {K : PySem.W.Frag} {G : Hp} {v : V} {n : Str} {fs : List (Str × PyData)} (h : Dn K G v (obD n fs)) : ∃ a C dx ws, v = .ref a ∧ G a = some (.ins C dx ws) ∧ ObjK K n C ∧ FldOk K G ws fs := by
  unfold obD at h
  generalize hx : objD n fs = x at h
  cases h with
  | ob h k e t =>
    rename_i a C dx n' ws fs'
    simp only [PyData.dict.injEq, List.cons.injEq, Prod.mk.injEq, PyData.str.injEq, true_and] at hx
    obtain ⟨rfl, h2⟩ := hx
    have : fs = fs' := obD_inj (n := n) (congrArg (fun l => PyData.dict ((PyData.int markI, PyData.str n) :: l)) h2)
    subst this
    exact ⟨a, C, dx, ws, rfl, h, k, e, t⟩
  | _ => cases hx
theorem ObjK.uniq {K : PySem.W.Frag} {n : Str} {C D : Addr} (h : ObjK K n C) (k : PySem.W.nsIn K mainGlobals n = some (some (.ref D))) : C = D := by
  have := h.at_.symm.trans k
  cases this
  rfl
section
variable {X : Cx} {e : Expr} {f : Str} {pos : Pos} {n : Str} {C : Addr}
theorem je_fld {w : DE} (hC : PySem.W.nsIn X.K mainGlobals n = some (some (.ref C))) (hn : NoAttr X.K C f) (ho : JE X e w) (hb : attributeBase e f X.env (eval e X.env) = eval e X.env := by rfl) : JE X (.Attribute e f pos) (wFld n f w) :=
  pe_le (pe_fld ho hb) fun pins s σ H Q I ⟨B, G, δ, R, rel, hw, k⟩ => ⟨B, G, δ, _, rel, hw, fun v H1 G1 o δ1 r1 s1 rel1 ok1 => by
    obtain ⟨x, ⟨fs, y, rfl, hl, q⟩, bx⟩ := use_ok rel1 ok1 r1
    have dn : Dn X.K G1 v (obD n fs) := by
      rcases bx with h | ⟨_, _, _, _, e, _⟩
      · exact h
      · cases e
    obtain ⟨a, C', dx, ws, rfl, hG, k', fo⟩ := dn_ob dn
    obtain rfl := k'.uniq hC
    obtain ⟨u, hu, du⟩ := fo.look hl
    exact ⟨a, _, dx, ws, u, rfl, rel1.sg _ _ hG, k'.cl, hn, hu, k u H1 G1 _ δ1 q s1 rel1 du⟩⟩
theorem je_fldO {i : Nat} {x : Str} {px : Pos} (hC : PySem.W.nsIn X.K mainGlobals n = some (some (.ref C))) (hn : NoAttr X.K C f) (ho : PE X (.Name x px) (tVar i)) (hb : attributeBase (.Name x px) f X.env (eval (.Name x px) X.env) = eval (.Name x px) X.env := by rfl) : JE X (.Attribute (.Name x px) f pos) (wFldO i n f) :=
  pe_le (pe_fld ho hb) fun pins s σ H Q I ⟨B, G, δ, R, rel, ⟨a, fs, hc, y, hl, q⟩, k⟩ => by
    obtain ⟨o, hσ, rfl, C', dx, ws, hH, k', fo⟩ := rel.at hc
    obtain rfl := k'.uniq hC
    obtain ⟨u, hu, du⟩ := FldOk.look fo hl
    exact ⟨.ref a, hσ, a, _, dx, ws, u, rfl, hH, k'.cl, hn, hu, k u H G _ δ q (Same.refl _) rel du⟩
theorem pg_attr {o : Expr} {ta : TE} (ha : PE X o ta) : PG X (.Attribute o f pos) (fun v σ H Q => ta σ H fun x H2 => ∃ a C dx fs, x = .ref a ∧ H2 a = some (.ins C dx fs) ∧ Cls X.K C ∧ NoAttr X.K C f ∧ fs.length < 1000 ∧ Q σ (upd H2 a (.ins C dx (putF f v fs)))) where
  run pins s σ H v u Q I r h := by
    have at_ := ha.run pins s σ H _ I h
    rw [assign_Attribute]
    intro Γ p hΓ
    simp only [Sem.wp_bind', Sem.wp_holding, Sem.wp_cmd_standAt, Sem.wp_release, Sem.wp_pure']
    refine Sem.wp_mono (model X.prog X.w) Γ _ (fun ov p1 s1 got => ?_) (fun _ _ _ z => z) _ _ (at_ Γ p hΓ)
    obtain ⟨x, H2, I2, rx, a, C, dx, fs, rfl, ea, c, nn, few, q⟩ := got
    cases rx
    exact setattr_ok (Q := fun _ s' => ∃ σ' H', Inv X pins σ' H' s' ∧ Q σ' H') I2 ea c nn few r (fun s3 I3 => ⟨σ, _, I3, q⟩) Γ _ hΓ
theorem jg_attr {i : Nat} {x : Str} {px : Pos} (hC : PySem.W.nsIn X.K mainGlobals n = some (some (.ref C))) (hn : NoAttr X.K C f) (ho : PE X (.Name x px) (tVar i)) : JG X (.Attribute (.Name x px) f pos) [] (gA i n f) :=
  pg_le (pg_attr ho) fun pins s v σ H Q I ⟨B, G, δ, d, R, rel, dn, ⟨a, fs, hc, few, q⟩, k⟩ => by
    obtain ⟨o, hσ, ok⟩ := rel.at hc
    have ok' := ok
    obtain ⟨rfl, C', dx, ws, hH, k', fo⟩ := ok
    obtain rfl := k'.uniq hC
    have fo : FldOk X.K G ws fs := fo
    refine ⟨.ref a, hσ, a, _, dx, ws, rfl, hH, k'.cl, hn, by rw [fo.len]; omega, ?_⟩
    have fo2 := FldOk.put (f := f) dn fo
    exact k σ _ G _ q (Same.refl _) (Rel.put rel hc hσ (by simp [Cell.fp]) rfl ⟨rfl, _, dx, _, upd_same, k', fo2.1, fo2.2⟩) (Only.refl _ _)
end
end DL
set_option Elab.async false
set_option linter.all false
set_option maxRecDepth 100000
set_option maxHeartbeats 4000000
namespace DL
open PySem PySem.Spec PyProof.Rows L2 StX
variable [Tb]
theorem RoomG.make {k : Nat} {A : Around} (r : RoomG (k + 1) A) (C : Addr) (us : List Value) (kw : List (Str × Value)) : RoomG k (A.under (.builtin "type.__call__" ⟨.ref C :: us, kw⟩)) :=
  ⟨r.rm.make C us kw, by
    simp only [Around.under, r.gd]
    rfl⟩
section
variable {X : Cx} {CX : CXT} {k : Nat} {f C : Addr} {fd : FuncData} {ps : List Str} {sp : Sp} {E : XK} {o e : Expr} {es : List Expr} {ta : TE} {t : TA} {m x : Str} {apos pos p : Pos}
end
section
variable {K : PySem.W.Frag} {B G H : Hp} {δ : DS} {σ : L2.St} {a C dx : Addr} {n : Str}
theorem opds_dn : ∀ {vs : List V} {xs : List PyData}, DnL K G vs xs → OpdsOk K G σ vs (xs.map Opd.d)
  | _, [], h => by cases h; exact .nil
  | _, _ :: _, h => by cases h with | cons a b => exact .cons a (opds_dn b)
theorem slots_d : ∀ xs : List PyData, slotsOf (xs.map Opd.d) = []
  | [] => rfl
  | _ :: xs => slots_d xs
theorem cells_d (xs : List PyData) : (xs.map Opd.d).map (cellOf δ) = xs.map Cell.d := by
  rw [List.map_map]
  rfl
theorem putBack_ds : ∀ (xs : List PyData) (cs : List Cell), putBack (xs.map Opd.d) cs δ = δ
  | [], cs => by cases cs <;> rfl
  | _ :: xs, [] => rfl
  | _ :: xs, _ :: cs => putBack_ds xs cs
theorem Rel.consOb {cs : List Cell} {τ : L2.St} (R : Rel K B G cs τ H) (h : H a = Option.none) (k : ObjK K n C) : Rel K B G (.ob a n [] :: cs) (some (.ref a) :: τ) (upd H a (.ins C dx [])) := by
  have far : ∀ {i : Nat} {c : Cell}, cs[i]? = some c → a ∉ c.fp := fun e m => by
    obtain ⟨u, eu⟩ := R.tr e m
    rw [h] at eu
    cases eu
  refine ⟨by simp [R.len], R.sg.trans (same_new h), R.sb.trans (same_new h), R.dj, fun i c w e1 e2 => ?_, fun i j c c' b e1 e2 m1 m2 => ?_, fun i c b e m => ?_, ⟨tabs_new R.tt.t h, R.tt.n⟩⟩
  · cases i with
    | zero => cases e1; cases e2; exact ⟨rfl, C, dx, [], upd_same, k, rfl, .nil⟩
    | succ i =>
      refine (R.ok i c w e1 e2).stay (Same.refl _) fun b hb => upd_ne fun z => ?_
      subst z
      exact far e1 hb
  · cases i with
    | zero =>
      cases e1
      obtain rfl := List.mem_singleton.mp m1
      cases j with
      | zero => rfl
      | succ j => exact absurd m2 (far e2)
    | succ i =>
      cases j with
      | zero =>
        cases e2
        obtain rfl := List.mem_singleton.mp m2
        exact absurd m1 (far e1)
      | succ j => exact congrArg _ (R.ap i j c c' b e1 e2 m1 m2)
  · cases i with
    | zero =>
      cases e
      obtain rfl := List.mem_singleton.mp m
      exact ⟨R.freeG h, R.freeB h⟩
    | succ i => exact R.fr i c b e m
theorem Rel.dropOb {cs : List Cell} {τ : L2.St} {fs : List (Str × PyData)} {v : V} (R : Rel K B G (.ob a n fs :: cs) (some v :: τ) H) : v = .ref a ∧ ∃ u, Same G (upd G a u) ∧ Rel K B (upd G a u) cs τ H ∧ Dn K (upd G a u) (.ref a) (obD n fs) := by
  obtain ⟨ga, ba⟩ := R.fr 0 _ a rfl (by simp [Cell.fp])
  obtain ⟨e, C, dx, ws, hH, k, e2, t⟩ := R.ok 0 _ _ rfl rfl
  have sG : Same G (upd G a (.ins C dx ws)) := same_new ga
  refine ⟨by cases e; rfl, _, sG, ⟨by have := R.len; simpa using this, fun b u q => ?_, R.sb, fun b => ?_, fun i c w e1 e2 => (R.ok (i + 1) c w e1 e2).stay sG fun _ _ => rfl, fun i j c c' b e1 e2 m1 m2 => ?_, fun i c b ec m => ?_, ⟨R.tt.t, R.tt.n.updG fun _ z => (nomatch z)⟩⟩, .ob upd_same k e2 (t.mono sG)⟩
  · by_cases hb : b = a
    · subst hb; rw [upd_same] at q; cases q; exact hH
    · rw [upd_ne hb] at q; exact R.sg _ _ q
  · by_cases hb : b = a
    · subst hb; exact .inr ba
    · rw [upd_ne hb]; exact R.dj b
  · have := R.ap (i + 1) (j + 1) c c' b e1 e2 m1 m2
    exact Nat.succ.inj this
  · obtain ⟨f1, f2⟩ := R.fr (i + 1) c b ec m
    have ne : b ≠ a := fun z => by
      subst z
      have := R.ap (i + 1) 0 c _ b ec rfl m (by simp [Cell.fp])
      omega
    exact ⟨by rw [upd_ne ne]; exact f1, f2⟩
end
def madeC (cs : List Cell) (n : Str) (k : List (Str × PyData) → Prop) (_u : Stop k) : Prop := ∃ a fs rest, cs = .ob a n fs :: rest ∧ k fs
@[simp ↓] theorem madeC_cons (a : Addr) (n : Str) (fs : List (Str × PyData)) (rest : List Cell) (k : List (Str × PyData) → Prop) (u : Stop k) : madeC (.ob a n fs :: rest) n k u = k fs :=
  propext ⟨fun ⟨a', fs', r', e, h⟩ => by cases e; exact h, fun h => ⟨a, fs, rest, rfl, h⟩⟩
def wMake (n : Str) (sp : DSp) (w : DA) : DE := fun δ R => w δ fun os δ1 => lkL os δ1 fun xs δ2 => ∀ a : Addr, ask sp (.ob a n [] :: xs.map Cell.d) (fun y cs => y = .none ∧ madeC cs n (fun fs => R (.d (obD n fs)) δ2) .mk) .mk
def wMeth (n m : Str) (sp : DSp) (w : DE) (wa : DA) : DE := fun δ R => w δ fun o δ1 => lk o δ1 fun x δ2 => obC x n (fun fs => fs.lookup m = none ∧ wa δ2 fun os δ3 => lkL os δ3 fun xs δ4 => ask sp (.d x :: xs.map Cell.d) (fun y _ => R (.d y) δ4) .mk) .mk
omit [Tb] in
@[simp ↓] theorem wMake_ap (n : Str) (sp : DSp) (w : DA) (δ : DS) (R : Opd → DS → Prop) : wMake n sp w δ R = (w δ fun os δ1 => lkL os δ1 fun xs δ2 => ∀ a : Addr, ask sp (.ob a n [] :: xs.map Cell.d) (fun y cs => y = .none ∧ madeC cs n (fun fs => R (.d (obD n fs)) δ2) .mk) .mk) := rfl
omit [Tb] in
@[simp ↓] theorem wMeth_ap (n m : Str) (sp : DSp) (w : DE) (wa : DA) (δ : DS) (R : Opd → DS → Prop) : wMeth n m sp w wa δ R = (w δ fun o δ1 => lk o δ1 fun x δ2 => obC x n (fun fs => fs.lookup m = none ∧ wa δ2 fun os δ3 => lkL os δ3 fun xs δ4 => ask sp (.d x :: xs.map Cell.d) (fun y _ => R (.d y) δ4) .mk) .mk) := rfl
section
variable {X : Cx} {k : Nat} {f C : Addr} {fd : FuncData} {ps : List Str} {sp : DSp} {o e : Expr} {es : List Expr} {w : DE} {wa : DA} {n m x : Str} {apos pos p : Pos}
end
end DL
set_option Elab.async false
set_option linter.all false
set_option maxRecDepth 100000
set_option maxHeartbeats 4000000
namespace DL
open PySem PySem.Spec PyProof.Rows L2
variable [Tb]
omit [Tb] in
theorem objK_mk {K : PySem.W.Frag} {n : Str} {C : Addr} (at_ : PySem.W.nsIn K mainGlobals n = some (some (.ref C))) (k1 : PySem.W.kitOne K (.ref C) (.type "int") = some false) (k2 : PySem.W.kitOne K (.ref C) (.type "bool") = some false) (k3 : PySem.W.kitOne K (.ref C) (.type "str") = some false)
    (k4 : PySem.W.kitOne K (.ref C) (.type "tuple") = some false) (k5 : PySem.W.kitOne K (.ref C) (.type "list") = some false) (k6 : PySem.W.kitOne K (.ref C) (.type "dict") = some false) (pg : PySem.W.plainGet K C Str.empty = true) (hd : PySem.W.hasDictIn K C = true) (po : PySem.W.plainOver K C = true)
    (sa : PySem.W.findIn K (.ref C) "__setattr__" = some (some (.builtin "object.__setattr__"))) (ha : PySem.W.findIn K (.ref C) "__class__" = some (some (.builtin "object.__class__"))) (hn : PySem.W.specialIn K (.builtin "object.__class__") "__get__" = some (some (.builtin "getset_descriptor.__get__")))
    (tk : PySem.W.takesIn K (.builtin "object.__class__") = some true) (mr : PySem.W.mroIn K C (.type "object") = some true) : ObjK K n C :=
  ⟨at_, fun T hT => by
    simp only [List.mem_cons, List.not_mem_nil, or_false] at hT
    rcases hT with rfl | rfl | rfl | rfl | rfl | rfl
    · exact k1
    · exact k2
    · exact k3
    · exact k4
    · exact k5
    · exact k6, ⟨pg, hd, po, sa⟩, ha, hn, tk, mr⟩
omit [Tb] in
@[simp ↓] theorem sameIo_ob (a : Addr) (n : Str) (fs gs : List (Str × PyData)) (cs : List Cell) (δ : DS) : sameIo (.ob a n fs :: cs) (.ob a n gs :: δ) = sameIo cs δ := propext ⟨fun h => h.2, fun h => ⟨⟨gs, rfl⟩, h⟩⟩
omit [Tb] in
@[simp ↓] theorem outC_ob (a : Addr) (n : Str) (fs : List (Str × PyData)) (e : Cell) (cs : List Cell) (δ : DS) : outC (.ob a n fs :: cs) (e :: δ) = e :: outC cs δ := rfl
end DL
set_option Elab.async false
set_option linter.all false
set_option maxRecDepth 100000
set_option maxHeartbeats 4000000
namespace DL
open PySem PySem.Spec PyProof.Rows L2 NdefX

abbrev lamO (F : NF) (body : Expr) (pm ctv : Value) : Obj := PySem.W.kla_obj F.name F.qual F.params body F.scope F.cl pm F.c ctv
abbrev LamB (F : NF) (body : Expr) (ps : List Str) : Prop := ∀ (pm cv ctv : Value) (us : List Value), us.length = ps.length → bindArgs (PySem.W.kla_fn F.name F.qual F.params body F.scope F.cl pm cv ctv) ⟨us, []⟩ = pure (ps.zip us)
section
variable {P : Program} {w : World} {K : PySem.W.Frag} {mg : Str → Option Value} {base : Heap} {N ps fr : List Str} {F : NF} {f : Addr} {k : Nat} {body : Expr} {tb : TE}
end
structure LamAt (Z : Cx) (ps fr N : List Str) (F : NF) (f : Addr) (body : Expr) (ws : List (Option V)) : Prop where
  sc : NScope N ps fr F.scope
  obj : ∃ pm ctv, Z.s_0.heap.get? f = some (lamO F body pm ctv)
  new : Z.H_0 f = none
  nfs : f ∉ Z.fs
  ex : Z.ex = []
  cells : CellsAt F.cl fr ws Z.s_0.heap Z.H_0
  bind : LamB F body ps
section
variable {Z : Cx} {ps fr N : List Str} {F : NF} {f : Addr} {body : Expr} {ws : List (Option V)} {k i : Nat} {a : Str} {e : Expr} {es : List Expr} {ta : TA} {tb : TE} {p pos : Pos}
end
end DL
set_option Elab.async false
set_option linter.all false
set_option maxRecDepth 100000
set_option maxHeartbeats 4000000
namespace DL
open PySem PySem.Spec PyProof.Rows L2 NdefX
variable [Tb]
def tlOf (bw : DE) (n m : Nat) (ds : List PyData) (xs : List PyData) (k : PyData → Prop) : Prop := xs.length = m ∧ bw (start0 n ((xs ++ ds).map Cell.d)) fun o δ' => lk o δ' fun y _ => k y
def wAct (i : Nat) (f : Addr) (m : Hp) (tl : List PyData → (PyData → Prop) → Prop) (wa : DA) : DE := fun δ R => δ[i]? = some (.fv f m) ∧ wa δ fun os δ1 => lkL os δ1 fun xs δ2 => tl xs fun y => R (.d y) δ2
omit [Tb] in
@[simp ↓] theorem wAct_ap (i : Nat) (f : Addr) (m : Hp) (tl : List PyData → (PyData → Prop) → Prop) (wa : DA) (δ : DS) (R : Opd → DS → Prop) : wAct i f m tl wa δ R = (δ[i]? = some (.fv f m) ∧ wa δ fun os δ1 => lkL os δ1 fun xs δ2 => tl xs fun y => R (.d y) δ2) := rfl
section
variable {K : PySem.W.Frag} {B G H : Hp} {δ : DS} {σ : L2.St}
theorem Rel.bare (R : Rel K B G δ σ H) : Rel K B G [] [] H :=
  ⟨rfl, R.sg, R.sb, R.dj, fun i c o e => by simp at e, fun i j c c' a e => by simp at e, fun i c a e => by simp at e, R.tt⟩
end
section
variable {Z : Cx} {ps fr N : List Str} {F : NF} {f : Addr} {body : Expr} {wv : List V} {ds : List PyData} {k i : Nat} {m : Hp} {a : Str} {e : Expr} {es : List Expr} {wa : DA} {bw : DE} {p pos : Pos}
end
end DL
set_option Elab.async false
set_option linter.all false
set_option maxRecDepth 100000
set_option maxHeartbeats 4000000
namespace DL
open PySem PySem.Spec PyProof.Rows L2 NdefX
variable [Tb]
abbrev LTl := List PyData → (PyData → Prop) → Prop
abbrev LSp := LTl → List PyData → (PyData → Prop) → Prop
abbrev takerX (P : Program) (w : World) (K : PySem.W.Frag) (mg : Str → Option Value) (base : Heap) (N : List Str) (qual : Str) (sc : Scope) (g : Addr) (cd : Value) (A : Around) (outer : List Env) (s : Shared) (H : Hp) : Cx := (cxOf CX0 P w K mg base N qual sc g cd A outer s H E0).nox
def Acts (Z : Cx) (f : Addr) (m : Hp) (tl : LTl) : Prop := ∀ (i : Nat) (a : Str) (e : Expr) (es : List Expr) (wa : DA) (p pos : Pos), Z.N[i]? = some a → Vis Z.env.scope a → JA Z (e :: es) wa → (a == ("__debug__" : Str)) = false → (a == ("__classdict__" : Str)) = false →
  starEach (e :: es) Z.env = (false, eval e Z.env) :: starEach es Z.env → (backTo pos (starEach es Z.env)).any (·.1) = false → JE Z (.Call (.Name a p) (e :: es) [] pos) (wAct i f m tl wa)
structure FnL (P : Program) (w : World) (K : PySem.W.Frag) (mg : Str → Option Value) (base : Heap) (k : Nat) (g : Addr) (fd : FuncData) (ps : List Str) (sp : LSp) : Prop where
  len : ∀ tl xs R, sp tl xs R → xs.length + 1 = ps.length
  run : ∀ (A : Around) (outer : List Env) (s : Shared) (H : Hp) (args : Args) (f : Addr) (us : List Value) (vs : List V) (m : Hp) (tl : LTl) (xs : List PyData) (R : PyData → Prop) (B G : Hp) (Q : VK), RoomG k A → Env0 P w K mg base A outer s H → BindsTo s fd args (ps.zip (.ref f :: us)) → Vals vs us →
    Rel K B G (.fv f m :: xs.map Cell.d) ((V.ref f :: vs).map some) H → (∀ (N : List Str) (qual : Str) (sc : Scope) (cd : Value), Acts (takerX P w K mg base N qual sc g cd A outer s H) f m tl) → sp tl xs R →
    (∀ v H' G' y, R y → Same G G' → Rel K B G' [] [] H' → Dn K G' v y → Q v H') → codeAny (model P w) A (.call (.ref g) args) (CR CX0 outer P w H s Q E0) s
section
variable {P : Program} {w : World} {K : PySem.W.Frag} {mg : Str → Option Value} {base : Heap}
theorem FnL.mono {j k : Nat} {g : Addr} {fd : FuncData} {ps : List Str} {sp : LSp} (F : FnL P w K mg base j g fd ps sp) (h : j ≤ k) : FnL P w K mg base k g fd ps sp :=
  ⟨F.len, fun A outer s H args f us vs m tl xs R B G Q hr => F.run A outer s H args f us vs m tl xs R B G Q (hr.mono h)⟩
end
section
variable {P : Program} {w : World} {K : PySem.W.Frag} {mg : Str → Option Value} {base : Heap}
end
def capC1 (c : Option Cell) (k : PyData → Prop) (_u : Stop k) : Prop := ∃ x, c = some (.d x) ∧ k x
def capC : List Nat → DS → (List PyData → Prop) → Prop
  | [], _, k => k []
  | j :: js, δ, k => capC1 δ[j]? (fun x => capC js δ fun ds => k (x :: ds)) .mk
omit [Tb] in
@[simp ↓] theorem capC1_d (x : PyData) (k : PyData → Prop) (u : Stop k) : capC1 (some (.d x)) k u = k x := propext ⟨fun ⟨y, e, h⟩ => by cases e; exact h, fun h => ⟨x, rfl, h⟩⟩
omit [Tb] in
@[simp ↓] theorem capC_nil (δ : DS) (k : List PyData → Prop) : capC [] δ k = k [] := rfl
omit [Tb] in
@[simp ↓] theorem capC_cons (j : Nat) (js : List Nat) (δ : DS) (k : List PyData → Prop) : capC (j :: js) δ k = capC1 δ[j]? (fun x => capC js δ fun ds => k (x :: ds)) .mk := rfl
def askL (sp : LSp) (tl : LTl) (xs : List PyData) (R : PyData → Prop) (_u : Stop R) : Prop := sp tl xs R
def wLam (js : List Nat) (n m : Nat) (bw : DE) (sp : LSp) (wa : DA) : DE := fun δ R => wa δ fun os δ1 => lkL os δ1 fun xs δ2 => capC js δ2 fun ds => askL sp (tlOf bw n m ds) xs (fun y => R (.d y) δ2) .mk
omit [Tb] in
@[simp ↓] theorem wLam_ap (js : List Nat) (n m : Nat) (bw : DE) (sp : LSp) (wa : DA) (δ : DS) (R : Opd → DS → Prop) : wLam js n m bw sp wa δ R = (wa δ fun os δ1 => lkL os δ1 fun xs δ2 => capC js δ2 fun ds => askL sp (tlOf bw n m ds) xs (fun y => R (.d y) δ2) .mk) := rfl
section
variable {K : PySem.W.Frag} {B G H : Hp} {δ : DS} {σ : L2.St}
end
section
variable {X : Cx} {k j : Nat} {g c P : Addr} {fd : FuncData} {ps lps fr N : List Str} {sp : LSp} {x : Str} {params : Arguments} {body e : Expr} {es : List Expr} {scope : Scope} {js : List Nat} {bw : DE} {wa : DA} {lpos p pos : Pos}
end
end DL
set_option Elab.async false
set_option linter.all false
set_option maxRecDepth 100000
set_option maxHeartbeats 4000000
namespace DL
open PySem PySem.Spec PyProof.Rows L2
noncomputable def tabH (K : PySem.W.Frag) (a : Addr) (vs : List Value) (ns : List Int) (cs : List (Addr × Addr)) : Hp := by
  classical
  exact fun b => if b ∈ cs.map Prod.snd then some (.tbl #[]) else scrH K a vs ns b
structure Tabled (K : PySem.W.Frag) (h : Heap) (cs : List (Addr × Addr)) : Prop where
  code : ∀ p ∈ cs, PySem.W.CodeHd h p.1 p.2
  tab : ∀ p ∈ cs, h.get? p.2 = some (PySem.W.tabObj #[])
  off : ∀ p ∈ cs, K.lookup p.2 = none
abbrev OneArgT (P : Program) (w : World) (K : PySem.W.Frag) (mg : Str → Option Value) (k : Nat) (fa : Addr) (x : Str) (sp : Sp) (cs : List (Addr × Addr)) (fd : FuncData) : Prop :=
  (∀ (s : Shared) (u : Value), BindsTo s fd ⟨[u], []⟩ [(x, u)]) ∧ ∀ base : Heap, K.In base → base.Ns mainGlobals mg → (∀ p ∈ cs, LamX.TabB base mg p.1 p.2) → FnG P w K mg base CX0 k fa fd [x] sp
theorem lawT {P : Program} {w : World} {K : PySem.W.Frag} {mg : Str → Option Value} {k : Nat} {fa a : Addr} {fd : FuncData} {x : Str} {sp : Sp} {s₁ : Shared} {vs : List Value} {ns : List Int} {cs : List (Addr × Addr)}
    (B : Began K mg s₁.heap) (hg : s₁.gens = #[]) (S : Script s₁.heap a vs ns) (Y : Tabled K s₁.heap cs) (hm : ∃ (bm : Addr) (ob : Obj), mg "__builtins__" = some (.ref bm) ∧ bm ≠ builtinsNs ∧ s₁.heap.get? bm = some ob ∧ ob.cls = .type "module" ∧ ob.dict = some builtinsNs ∧ ob.data = .plain)
    (hr : Room k callerA) (F : OneArgT P w K mg k fa x sp cs fd) (hsp : ∀ H : Hp, (∀ p ∈ cs, H p.2 = some (.tbl #[])) → SqL K H a (ns.map V.int) → sp [.ref a] H (fun v _ => v = .bl true) fun _ _ _ => False) :
    codeAny (model P w) callerA (.call (.ref fa) ⟨[.ref a], []⟩) (fun r z => r = .ok (.ret (.bool true)) ∧ OldK s₁.heap z.heap ∧ z.os = s₁.os ∧ AllBare z.gens) s₁ := by
  obtain ⟨KX, hns, ⟨mb, hb, hbb⟩, hlim⟩ := B
  obtain ⟨ha, hi, hl⟩ := S
  obtain ⟨hbind, F⟩ := F
  have rv := vals_ints hi
  have isT : ∀ {b : Addr}, b ∈ cs.map Prod.snd → s₁.heap.get? b = some (PySem.W.tabObj #[]) := fun h => by
    obtain ⟨p, hp, rfl⟩ := List.mem_map.mp h
    exact Y.tab p hp
  have aT : a ∉ cs.map Prod.snd := fun h => by
    have := isT h
    rw [ha] at this
    cases this
  obtain ⟨T, eT⟩ : ∃ T, tabH K a vs ns cs = T := ⟨_, rfl⟩
  have onT : ∀ {b : Addr}, b ∈ cs.map Prod.snd → T b = some (.tbl #[]) := fun h => by rw [← eT]; unfold tabH; exact if_pos h
  have offT : ∀ {b : Addr}, b ∉ cs.map Prod.snd → T b = scrH K a vs ns b := fun h => by rw [← eT]; unfold tabH; exact if_neg h
  have cases_ : ∀ {b : Addr} {u : HO}, T b = some u → (b ∈ cs.map Prod.snd ∧ u = .tbl #[]) ∨ (b = a ∧ K.lookup a = none ∧ u = .frz { cls := .type "list", data := .seq vs.toArray } (.lst (ns.map V.int))) := fun {b u} h => by
    by_cases m : b ∈ cs.map Prod.snd
    · rw [onT m] at h
      cases h
      exact .inl ⟨m, rfl⟩
    · rw [offT m] at h
      exact .inr (scrH_some h)
  have reads : SqL K T a (ns.map V.int) := by
    cases hk : K.lookup a with
    | none => exact .inl (.inr ⟨_, by rw [offT aT]; exact scrH_at hk⟩)
    | some o =>
      have e := KX a o hk
      rw [ha] at e
      cases e
      exact .inr ⟨_, vs.toArray, _, hk, rfl, rfl, rfl, by rw [List.size_toArray, hi.length]; exact hl, by simpa using rv⟩
  have hok : HOk P w T s₁.heap := fun b u q => by
    rcases cases_ q with ⟨m, rfl⟩ | ⟨rfl, _, rfl⟩
    · exact isT m
    · exact ⟨ha, (List.length_map (as := ns) V.int).symm ▸ hl, vs, _, rv, ha⟩
  have free : ∀ {b : Addr} {o : Obj}, s₁.heap.get? b = some o → (∀ vs n, o.data ≠ .seq vs n) → o.data ≠ .fields #[] → T b = none := fun {b o} e d d2 => by
    cases q : T b with
    | none => rfl
    | some u =>
      rcases cases_ q with ⟨m, _⟩ | ⟨rfl, _, _⟩
      · rw [isT m] at e
        cases e
        exact absurd rfl d2
      · rw [ha] at e
        cases e
        exact absurd rfl (d _ _)
  have names : ∀ {b : Addr} {m : Str → Option Value}, s₁.heap.Ns b m → (hidT s₁.heap T).Ns b m := fun {b m} ⟨o, es, ep, e, d, r⟩ =>
    ⟨o, es, ep, hidT_get e (free e (fun _ _ z => by rw [d] at z; cases z) fun z => by rw [d] at z; cases z), d, r⟩
  have kIn : K.In (hidT s₁.heap T) := fun b o e => hidT_get (KX b o e) (by
    cases q : T b with
    | none => rfl
    | some u =>
      rcases cases_ q with ⟨m, _⟩ | ⟨rfl, h2, _⟩
      · obtain ⟨p, hp, rfl⟩ := List.mem_map.mp m
        rw [Y.off p hp] at e
        cases e
      · rw [h2] at e
        cases e)
  have md : Mod K mg (hidT s₁.heap T) := ⟨kIn, names hns, ⟨mb, names hb, hbb⟩, let ⟨mc, h1, h2⟩ := hlim; ⟨mc, names h1, h2⟩⟩
  have tabs : ∀ p ∈ cs, LamX.TabB (hidT s₁.heap T) mg p.1 p.2 := fun p hp => by
    have tp := Y.tab p hp
    obtain ⟨o, us, file, tf, flags, tg, inF, text, tt, e, r1, r2, r3, rest⟩ := Y.code p hp
    obtain ⟨bm, ob, b1, b2, b3, b4, b5, b6⟩ := hm
    obtain ⟨on, es, ep, en, dn, _⟩ := id hns
    refine ⟨⟨o, us, file, tf, flags, tg, inF, text, tt, hidT_get e (free e (fun _ _ z => by rw [r2] at z; cases z) fun z => ?_), r1, r2, r3, rest⟩, ⟨bm, ob, b1, b2, fun q => ?_, fun q => ?_, hidT_get b3 (free b3 (fun _ _ z => by rw [b6] at z; cases z) fun z => by rw [b6] at z; cases z), b4, b5, b6⟩, fun q => ?_⟩
    · rw [r2] at z
      cases z
      simp at r3
    · rw [q, en] at b3
      cases b3
      rw [dn] at b6
      cases b6
    · rw [q, tp] at b3
      cases b3
      cases b6
    · rw [q, tp] at en
      cases en
      cases dn
  have env : Env0 P w K mg (hidT s₁.heap T) callerA [] s₁ T :=
    { frames := rfl, mod := md, bs := fun b o e => of_hidT e, bsz := Nat.le_of_eq (hidT_size _ _), funs := trivial, frf := fun b hb => (nomatch (show b ∈ ([] : List Addr) from hb)), hok := hok, bare := .of_eq hg }
  have run := (F _ kIn (names hns) tabs).run callerA [] s₁ T ⟨[.ref a], []⟩ [.ref a] [.ref a] _ _ (roomG_caller hr) env (hbind s₁ (.ref a)) (.cons rfl .nil) (hsp T (fun p hp => onT (List.mem_map.mpr ⟨p, hp, rfl⟩)) reads)
  have back : ∀ {H' : Hp} {z : Shared}, Un (frs []) [] T H' s₁.heap z.heap → HOk P w H' z.heap → OldK s₁.heap z.heap := fun {H' z} un ok => by
    have plain : ∀ {b : Addr} {o : Obj}, b ∉ cs.map Prod.snd → s₁.heap.get? b = some o → z.heap.get? b = some o := fun {b o} nb e => by
      cases q : T b with
      | none => exact un.keep b o e q (List.not_mem_nil) (by simp)
      | some t =>
        rcases cases_ q with ⟨m, _⟩ | ⟨rfl, _, rfl⟩
        · exact absurd m nb
        · exact (ok b _ (un.frzs b _ _ q)).1.trans (ha.symm.trans e)
    have grown : ∀ {b : Addr}, b ∈ cs.map Prod.snd → ∃ more : Array Value, z.heap.get? b = some (PySem.W.tabObj more) := fun {b} m => by
      obtain ⟨more, q⟩ := un.tbls b #[] (onT m)
      exact ⟨_, ok b _ q⟩
    refine ⟨fun b o e => ?_, fun b o e => ?_⟩
    · by_cases m : b ∈ cs.map Prod.snd
      · obtain ⟨more, q⟩ := grown m
        rw [isT m] at e
        cases e
        obtain ⟨p, hp, rfl⟩ := List.mem_map.mp m
        exact .inr (.inl ⟨((Y.code p hp).tab (Y.tab p hp)).isCodeTable, rfl, #[], more, rfl, by rw [Array.empty_append]; exact q⟩)
      · exact .inl (plain m e)
    · by_cases m : b ∈ cs.map Prod.snd
      · obtain ⟨more, q⟩ := grown m
        exact ⟨_, q⟩
      · exact ⟨o, plain m e⟩
  refine codeAny_mono run ?_
  rintro (e | _ | _ | _ | u) z h <;> try exact False.elim h
  obtain ⟨v, H', os, bare, un, ok, rv', rfl⟩ := h
  cases (show u = Value.bool true from rv')
  exact ⟨rfl, back un ok, os, bare⟩
end DL
set_option Elab.async false
set_option linter.all false
set_option maxRecDepth 100000
set_option maxHeartbeats 4000000
namespace DL
open PySem PySem.Spec PyProof.Rows L2
structure DefF where
  at_ : PySem.W.Frag → Addr
  name : Str
  qual : Str
  st : Stmt
  free : List Str := []
abbrev FnC : Type := Option (Str × Str × Arguments × FuncBody × Scope × Addr × List Str × Addr)
def fnO (K : PySem.W.Frag) (a : Addr) : FnC := match K.lookup a with
  | some ⟨_, _, .func fd, _⟩ => some (fd.name, fd.qualname, fd.params, fd.body, fd.scope, fd.globals, fd.closure.map Prod.fst, fd.builtins)
  | _ => none
def DefF.val (d : DefF) : FnC := some (d.name, d.qual, defArgs d.st, .stmts (defBody d.st), defScope d.st, mainGlobals, d.free, builtinsNs)
def isNo : Value → Bool
  | .none => true
  | _ => false
theorem isNo_ok {v : Value} (h : isNo v = true) : v = .none := by
  cases v <;> first | rfl | cases h
def DefF.ok (K : PySem.W.Frag) (d : DefF) : Bool := PySem.W.keepIn K (.ref (d.at_ K)) && (match K.lookup (d.at_ K) with
  | some ⟨_, _, .func fd, _⟩ => PySem.W.codeIn K fd.code d.qual && (isNo fd.defaults && (d.free.isEmpty || isNo fd.kwdefaults))
  | _ => false)
theorem DefF.get {K : PySem.W.Frag} {d : DefF} (e : fnO K (d.at_ K) = d.val) (c : d.ok K = true) :
    ∃ oc od kV dc pm an cd ct sl cl, K.lookup (d.at_ K) = some ⟨oc, od, .func (PySem.W.fnX d.name d.qual (defArgs d.st) (defBody d.st) (defScope d.st) cl .none kV dc pm an cd ct), sl⟩ ∧ cl.map Prod.fst = d.free ∧ PySem.W.codeIn K cd d.qual = true ∧ PySem.W.keepIn K (.ref (d.at_ K)) = true ∧ (d.free.isEmpty = false → kV = .none) := by
  obtain ⟨kp, c2⟩ := He.ba c
  unfold fnO at e
  cases q : K.lookup (d.at_ K) with
  | none =>
    rw [q] at c2
    cases c2
  | some o =>
    obtain ⟨oc, od, dt, osl⟩ := o
    rw [q] at c2 e
    cases dt with
    | func fd =>
      obtain ⟨n1, n2, n3, n4, n5, n6, n7, n8, n9, n10, n11, n12, n13, n14, n15⟩ := fd
      have e2 : (some (n1, n2, n3, n4, n5, n6, n7.map Prod.fst, n15) : FnC) = some (d.name, d.qual, defArgs d.st, .stmts (defBody d.st), defScope d.st, mainGlobals, d.free, builtinsNs) := e
      simp only [Option.some.injEq, Prod.mk.injEq] at e2
      obtain ⟨h1, h2, h3, h4, h5, h6, h7, h8⟩ := e2
      subst h1 h2 h3 h4 h5 h6 h8
      have c3 : (PySem.W.codeIn K n13 d.qual && (isNo n8 && (d.free.isEmpty || isNo n9))) = true := c2
      obtain ⟨k1, k2⟩ := He.ba c3
      obtain ⟨k3, k4⟩ := He.ba k2
      obtain rfl := isNo_ok k3
      refine ⟨oc, od, n9, n10, n11, n12, n13, n14, osl, n7, rfl, h7, k1, kp, fun hf => ?_⟩
      rw [hf, Bool.false_or] at k4
      exact isNo_ok k4
    | _ => cases c2
theorem DefF.fn {K : PySem.W.Frag} {d : DefF} (e : fnO K (d.at_ K) = d.val) (c : d.ok K = true) (h : d.free = []) : ∃ fd, Fun K d.name d.qual d.st (d.at_ K) fd := by
  obtain ⟨oc, od, kV, dc, pm, an, cd, ct, sl, cl, l, hc, k1, k2, _⟩ := DefF.get e c
  rw [h] at hc
  obtain rfl := List.map_eq_nil_iff.mp hc
  exact ⟨_, ⟨oc, od, kV, dc, pm, an, cd, ct, sl, rfl, l, k1⟩, k2⟩
abbrev Ask : Type := PySem.W.Frag → Bool
structure Told (fn : List DefF) (ex : List Ask) (tf : List He.Defn) (h : Heap) (K : PySem.W.Frag) : Prop where
  d : ∀ (i : Nat) (d : DefF), fn[i]? = some d → fnO K (d.at_ K) = d.val ∧ d.ok K = true
  x : ∀ (i : Nat) (f : Ask), ex[i]? = some f → f K = true
  hd : ∀ p ∈ tf, PySem.W.codeHdIn K (He.cT K p).1 (He.cT K p).2 = true
  out : ∀ p ∈ tf, K.lookup (He.cT K p).2 = none
  empty : ∀ p ∈ tf, h.get? (He.cT K p).2 = some { cls := .none, data := .fields #[] }
theorem Told.fn {fn : List DefF} {ex : List Ask} {tf : List He.Defn} {h : Heap} {K : PySem.W.Frag} (c : Told fn ex tf h K) (i : Nat) {d : DefF} (e : fn[i]? = some d) (hf : d.free = []) : ∃ fd, Fun K d.name d.qual d.st (d.at_ K) fd := DefF.fn (c.d i d e).1 (c.d i d e).2 hf
abbrev fragN (N : Nat) (g : Addr → Option Obj) : PySem.W.Frag := He.frT g (List.range N)
def obsF (N : Nat) (fn : List DefF) (ex : List Ask) (tf : List He.Defn) (g : Addr → Option Obj) : Bool × List FnC :=
  ((ex.all fun f => f (fragN N g)) && ((fn.all fun d => d.ok (fragN N g)) && He.tabsB g tf (fragN N g)), fn.map fun d => fnO (fragN N g) (d.at_ (fragN N g)))
theorem told_of {N : Nat} {fn : List DefF} {ex : List Ask} {tf : List He.Defn} {h : Heap} (e : obsF N fn ex tf h.get? = (true, fn.map DefF.val)) : Told fn ex tf h (fragN N h.get?) := by
  have e1 := congrArg (fun z : Bool × List FnC => z.1) e
  have e2 : (fn.map fun d => fnO (fragN N h.get?) (d.at_ (fragN N h.get?))) = fn.map DefF.val := congrArg (fun z : Bool × List FnC => z.2) e
  obtain ⟨h1, h2⟩ := He.ba (show ((ex.all fun f => f (fragN N h.get?)) && ((fn.all fun d => d.ok (fragN N h.get?)) && He.tabsB h.get? tf (fragN N h.get?))) = true from e1)
  obtain ⟨h2, h3⟩ := He.ba h2
  have key : ∀ p ∈ tf, PySem.W.codeHdIn (fragN N h.get?) (He.cT (fragN N h.get?) p).1 (He.cT (fragN N h.get?) p).2 = true ∧ ∃ o, h.get? (He.cT (fragN N h.get?) p).2 = some o ∧ He.emptyTab o = true := fun p hp => by
    obtain ⟨h4, h5⟩ := He.ba (List.all_eq_true.mp h3 p hp)
    refine ⟨h4, ?_⟩
    cases q : h.get? (He.cT (fragN N h.get?) p).2 with
    | none =>
      rw [q] at h5
      cases h5
    | some o =>
      rw [q] at h5
      exact ⟨o, rfl, h5⟩
  refine ⟨fun i d hi => ⟨?_, List.all_eq_true.mp h2 d (List.mem_of_getElem? hi)⟩, fun i f hi => List.all_eq_true.mp h1 f (List.mem_of_getElem? hi), fun p hp => (key p hp).1, fun p hp => ?_, fun p hp => ?_⟩
  · have e3 : (fn.map fun d => fnO (fragN N h.get?) (d.at_ (fragN N h.get?)))[i]? = (fn.map DefF.val)[i]? := by rw [e2]
    rw [List.getElem?_map, List.getElem?_map, hi] at e3
    exact Option.some.inj e3
  · obtain ⟨_, o, q, z⟩ := key p hp
    exact He.frT_none q z
  · obtain ⟨_, o, q, z⟩ := key p hp
    rw [q, He.emptyTab_eq z]
def hookF (N : Nat) (fn : List DefF) (ex : List Ask) (tf : List He.Defn) : PySem.W.Hook where
  α := Bool × List FnC
  obs := fun s => obsF N fn ex tf s.heap.get?
  val := fun _ => (true, fn.map DefF.val)
  says := fun _ h => ∃ K : PySem.W.Frag, K.In h ∧ Told fn ex tf h K
  of := fun _ _ e => ⟨_, He.frT_in, told_of e⟩
  keeps := fun _ _ _ ⟨K, hK, c⟩ k => ⟨K, PySem.W.Frag.In.keeps hK k, ⟨c.d, c.x, c.hd, c.out, fun p hp => k _ _ (c.empty p hp)⟩⟩
theorem obsF_eq {N : Nat} {fn : List DefF} {ex : List Ask} {tf : List He.Defn} (s : PySem.W.SharedT) : obsF N fn ex tf (HandSHeadRun.getT s) = (hookF N fn ex tf).obs s.abs := by
  have e : HandSHeadRun.getT s = s.abs.heap.get? := funext (HandSHeadRun.getT_eq s)
  rw [e] <;> rfl
noncomputable abbrev endS (r : PySem.W.OpenRow) (M : Nat) (w : World) (os : OsState) : Option PySem.W.SharedT := HandSHeadRun.endF (HandSHeadRun.stepQ (HandSHeadRun.denQ HandSHeadRun.tabQ) r.prog w) M r.prog w os
theorem run_parts {r : PySem.W.OpenRow} {q : Program} {N M : Nat} {fn : List DefF} {ex : List Ask} {tf : List He.Defn} {loose : List Str} {w : World}
    (a : ∀ os, (endS r M w os).map (fun s => HandSHeadRun.looksF r.prog (PySem.W.boot_heap w.params) s.abs) = some true)
    (b : ∀ os, (endS r M w os).map (fun s => HandSHeadRun.seenQ q loose (importedModules r.prog.main.body) (fun s => PySem.W.xlAt q [] s && PySem.W.recOk r.toRowW.records s) s.abs) = some (PySem.W.openGood q loose))
    (c : ∀ os, (endS r M w os).map (fun s => ex.all fun f => f (fragN N (HandSHeadRun.getT s))) = some true)
    (d : ∀ os, (endS r M w os).map (fun s => ((fn.all fun d => d.ok (fragN N (HandSHeadRun.getT s))) && He.tabsB (HandSHeadRun.getT s) tf (fragN N (HandSHeadRun.getT s)), fn.map fun d => fnO (fragN N (HandSHeadRun.getT s)) (d.at_ (fragN N (HandSHeadRun.getT s))))) = some (true, fn.map DefF.val)) :
    HandSHeadRun.RunEq r q (hookF N fn ex tf) (fun s => obsF N fn ex tf (HandSHeadRun.getT s)) M loose w := fun os => by
  have a := a os
  have b := b os
  have c := c os
  have d := d os
  show (endS r M w os).map _ = _
  cases e : endS r M w os with
  | none =>
    rw [e] at a
    cases a
  | some s =>
    rw [e] at a b c d
    have a1 := Option.some.inj a
    have b1 := Option.some.inj b
    have c1 := Option.some.inj c
    have d1 := Option.some.inj d
    have d2 := congrArg Prod.fst d1
    have d3 := congrArg Prod.snd d1
    refine congrArg some (Prod.ext a1 (Prod.ext b1 (Prod.ext ?_ d3)))
    show ((ex.all fun f => f (fragN N (HandSHeadRun.getT s))) && ((fn.all fun d => d.ok (fragN N (HandSHeadRun.getT s))) && He.tabsB (HandSHeadRun.getT s) tf (fragN N (HandSHeadRun.getT s)))) = true
    exact Bool.and_eq_true_iff.mpr ⟨c1, d2⟩
def clsT (s : Stmt) (j : Nat) : Stmt := match s with
  | .ClassDef _ _ _ body .. => body.getD j s
  | _ => s
section
variable {r : PySem.W.OpenRow} {N M : Nat} {w : World}
def RunC (r : PySem.W.OpenRow) (N M : Nat) (w : World) (ex : List Ask) : Prop := ∀ os, (endS r M w os).map (fun s => ex.all fun f => f (fragN N (HandSHeadRun.getT s))) = some true
def RunD (r : PySem.W.OpenRow) (N M : Nat) (w : World) (fn : List DefF) : Prop := ∀ os, (endS r M w os).map (fun s => ((fn.all fun d => d.ok (fragN N (HandSHeadRun.getT s))), fn.map fun d => fnO (fragN N (HandSHeadRun.getT s)) (d.at_ (fragN N (HandSHeadRun.getT s))))) = some (true, fn.map DefF.val)
def RunA (r : PySem.W.OpenRow) (N M : Nat) (w : World) (tf : List He.Defn) : Prop := ∀ os, (endS r M w os).map (fun s => (HandSHeadRun.looksF r.prog (PySem.W.boot_heap w.params) s.abs, He.tabsB (HandSHeadRun.getT s) tf (fragN N (HandSHeadRun.getT s)))) = some (true, true)
theorem RunC.app {X Y : List Ask} (a : RunC r N M w X) (b : RunC r N M w Y) : RunC r N M w (X ++ Y) := fun os => by
  have a := a os
  have b := b os
  cases e : endS r M w os with
  | none =>
    rw [e] at a
    cases a
  | some s =>
    rw [e] at a b
    refine congrArg some ?_
    show ((X ++ Y).all fun f => f (fragN N (HandSHeadRun.getT s))) = true
    rw [List.all_append]
    exact Bool.and_eq_true_iff.mpr ⟨Option.some.inj a, Option.some.inj b⟩
theorem RunD.app {X Y : List DefF} (a : RunD r N M w X) (b : RunD r N M w Y) : RunD r N M w (X ++ Y) := fun os => by
  have a := a os
  have b := b os
  cases e : endS r M w os with
  | none =>
    rw [e] at a
    cases a
  | some s =>
    rw [e] at a b
    have a1 := Option.some.inj a
    have b1 := Option.some.inj b
    refine congrArg some (Prod.ext ?_ ?_)
    · show (X ++ Y).all _ = true
      rw [List.all_append]
      exact Bool.and_eq_true_iff.mpr ⟨congrArg Prod.fst a1, congrArg Prod.fst b1⟩
    · show (X ++ Y).map _ = (X ++ Y).map _
      rw [List.map_append, List.map_append]
      exact congr (congrArg _ (congrArg Prod.snd a1)) (congrArg Prod.snd b1)
theorem run_all {q : Program} {fn : List DefF} {ex : List Ask} {tf : List He.Defn} {loose : List Str} (a : RunA r N M w tf)
    (b : ∀ os, (endS r M w os).map (fun s => HandSHeadRun.seenQ q loose (importedModules r.prog.main.body) (fun s => PySem.W.xlAt q [] s && PySem.W.recOk r.toRowW.records s) s.abs) = some (PySem.W.openGood q loose))
    (c : RunC r N M w ex) (d : RunD r N M w fn) : HandSHeadRun.RunEq r q (hookF N fn ex tf) (fun s => obsF N fn ex tf (HandSHeadRun.getT s)) M loose w := by
  refine run_parts (fun os => ?_) b c fun os => ?_
  · have a := a os
    cases e : endS r M w os with
    | none =>
      rw [e] at a
      cases a
    | some s =>
      rw [e] at a
      exact congrArg some (congrArg Prod.fst (Option.some.inj a))
  · have a := a os
    have d := d os
    cases e : endS r M w os with
    | none =>
      rw [e] at a
      cases a
    | some s =>
      rw [e] at a d
      have d1 := Option.some.inj d
      have d2 : (fn.map fun d => fnO (fragN N (HandSHeadRun.getT s)) (d.at_ (fragN N (HandSHeadRun.getT s)))) = fn.map DefF.val := congrArg Prod.snd d1
      refine congrArg some (Prod.ext (Bool.and_eq_true_iff.mpr ⟨congrArg Prod.fst d1, congrArg Prod.snd (Option.some.inj a)⟩) ?_)
      exact d2
end
def aG (x : Str) : Ask := fun K => He.eqO (PySem.W.nsIn K mainGlobals x) (some (some (.ref (He.ga K x))))
def aZ (x : Str) : Ask := fun K => He.eqO (PySem.W.nsIn K mainGlobals x) (some none)
def aI (x : Str) (i : Int) : Ask := fun K => (He.Fa.int x i).ok K
def aS (x z : Str) : Ask := fun K => (He.Fa.str x z).ok K
def aM (C m : Str) : Ask := fun K => (He.Fa.meth C m).ok K
def aN (C f : Str) : Ask := fun K => He.eqO (PySem.W.findIn K (.ref (He.ga K C)) f) (some none)
def aMk (C : Str) : Ask := fun K => PySem.W.makesIn K (He.ga K C) && PySem.W.keepIn K (.ref (He.ga K C))
def aExm (C c : Str) (b : Bool) : Ask := fun K => decide (PySem.W.exmOne K (.ref (He.ga K C)) (.ref (He.ga K c)) = some b)
def aOb (n : Str) : Ask := fun K => He.eqO (PySem.W.nsIn K mainGlobals n) (some (some (.ref (He.ga K n)))) &&
  ((["int", "bool", "str", "tuple", "list", "dict"].all fun T => decide (PySem.W.kitOne K (.ref (He.ga K n)) (.type T) = some false)) &&
  (PySem.W.plainGet K (He.ga K n) Str.empty && (PySem.W.hasDictIn K (He.ga K n) && (PySem.W.plainOver K (He.ga K n) &&
  (He.eqO (PySem.W.findIn K (.ref (He.ga K n)) "__setattr__") (some (some (.builtin "object.__setattr__"))) && (He.eqO (PySem.W.findIn K (.ref (He.ga K n)) "__class__") (some (some (.builtin "object.__class__"))) &&
  (He.eqO (PySem.W.specialIn K (.builtin "object.__class__") "__get__") (some (some (.builtin "getset_descriptor.__get__"))) && (decide (PySem.W.takesIn K (.builtin "object.__class__") = some true) && decide (PySem.W.mroIn K (He.ga K n) (.type "object") = some true)))))))))
def exLB (K : PySem.W.Frag) (C : Addr) (n : Str) : Bool := match K.lookup C with
  | some ⟨.type "type", _, .cls cd, sl⟩ => (match cd.mro, sl.toList with
    | .ref C' :: bm, [_, _, _, _, some (.builtin nid), _] => C' == C && (nid == "ValueError.__new__" && (!cd.hasDel && (cd.hasDict && (PySem.HandSPX.refsVE bm && decide (cd.name = n)))))
    | _, _ => false)
  | _ => false
def aCF (n : Str) : Ask := fun K => exLB K (He.ga K n) n &&
  (He.eqO (PySem.W.findIn K (.ref (He.ga K n)) "__setattr__") (some (some (.builtin "object.__setattr__"))) && (decide (PySem.W.subIn K (.ref (He.ga K n)) (.type "BaseException") = some true) && (decide (PySem.W.typeIn K (.ref (He.ga K n)) = some (.type "type")) && (PySem.W.keepIn K (.ref (He.ga K n)) &&
  (He.eqO (PySem.W.findIn K (.ref (He.ga K n)) "__getattribute__") (some (some (.builtin "BaseException.__getattribute__"))) && (He.eqO (PySem.W.findIn K (.ref (He.ga K n)) "__getattr__") (some none) && (PySem.W.hasDictIn K (He.ga K n) &&
  (He.eqO (PySem.W.findIn K (.ref (He.ga K n)) "__class__") (some (some (.builtin "object.__class__"))) && (He.eqO (PySem.W.specialIn K (.builtin "object.__class__") "__get__") (some (some (.builtin "getset_descriptor.__get__"))) && (decide (PySem.W.takesIn K (.builtin "object.__class__") = some true) &&
  decide (PySem.W.mroIn K (He.ga K n) (.type "object") = some true)))))))))))
def xCo (K : PySem.W.Frag) (fI : Addr) (C : Addr) (file : Str) : Bool := match K.lookup fI with
  | some ⟨_, _, .func fd, _⟩ => (match fd.code, fd.closure with
    | .ref cda, [(_, cc)] => (match K.lookup cda with
      | some ⟨_, _, .fields cvs, _⟩ => (match (cvs[2]? : Option Value) with
        | some (.str f _) => decide (file = f)
        | _ => false)
      | _ => false) && (match K.lookup cc with
      | some ⟨_, _, .cell (some (.ref D)), _⟩ => D == C
      | _ => false)
    | _, _ => false)
  | _ => false
def aX (n : Str) (fs : List Str) (file : Str) : Ask := fun K => (PySem.W.clsIn K (He.ga K n)).isSome && (decide (PySem.W.mroIn K (He.ga K n) (.ref (He.ga K n)) = some true) && (He.eqO (PySem.W.nsIn K cStatics "thirdparty.any") (some none) &&
  (He.eqO (PySem.W.ks_superIn K (He.ga K n) (He.ga K n) "__init__") (some (some (.builtin "ValueError.__init__"))) && (decide (PySem.W.subIn K (.ref (He.ga K n)) (.type "ValueError") = some true) && (He.eqO (PySem.W.findIn K (.ref (He.ga K n)) "__init__") (some (some (.ref (He.ma K (He.ga K n) "__init__")))) &&
  (decide (PySem.W.typeIn K (.ref (He.ma K (He.ga K n) "__init__")) = some (.type "function")) && (He.eqO (PySem.W.nsIn K mainGlobals "super") (some none) && ((fs.all fun f => He.eqO (PySem.W.findIn K (.ref (He.ga K n)) f) (some none)) && xCo K (He.ma K (He.ga K n) "__init__") (He.ga K n) file))))))))
def prF (K : PySem.W.Frag) (C m : Str) : Addr := match PySem.W.recIn K (He.ma K (He.ga K C) m) "property" with
  | some (.ref f :: _) => f
  | _ => 0
def aPr (C m : Str) : Ask := fun K => He.eqO (PySem.W.findIn K (.ref (He.ga K C)) m) (some (some (.ref (He.ma K (He.ga K C) m)))) && (He.eqO (PySem.W.specialIn K (.ref (He.ma K (He.ga K C) m)) "__get__") (some (some (.builtin "property.__get__"))) && (decide (PySem.W.takesIn K (.ref (He.ma K (He.ga K C) m)) = some true) &&
  (match PySem.W.recIn K (He.ma K (He.ga K C) m) "property" with
  | some (.ref _ :: _) => true
  | _ => false)))
end DL
set_option Elab.async false
set_option linter.all false
set_option maxRecDepth 100000
set_option maxHeartbeats 4000000
namespace DL
open PySem PySem.Spec PyProof.Rows L2
theorem walkF {l : PySem.W.OpenLaw} {n k N : Nat} {q : Program} {loose : List Str} {XP : (Str → Option Value) → Heap → Prop} {d : DefRec} {fn : List DefF} {ex : List Ask} {tf : List He.Defn} {sp : PySem.W.Frag → Sp} {x : Str}
    (most : l.most = some n) (fits : n ≤ sizeLine) (plain : d.params.defaults = []) (room : Room k callerA)
    (law : ∀ (w : World) (mg : Str → Option Value) (fa : Addr) (h : Heap) (K : PySem.W.Frag), K.In h → Told fn ex tf h K → h.Ns mainGlobals mg → mg d.name = some (.ref fa) → ∃ fd : FuncData, OneArgT l.prog w K mg k fa x (sp K) (tf.map (He.cT K)) fd)
    (true' : ∀ (K : PySem.W.Frag) (H : Hp) (a : Addr) (ns : List Int), ns.length ≤ n → (∀ p ∈ tf, H (He.cT K p).2 = some (.tbl #[])) → SqL K H a (ns.map V.int) → sp K [.ref a] H (fun v _ => v = .bl true) fun _ _ _ => False) :
    PySem.W.WalkO q loose XP (hookF N fn ex tf).says l.row.toRowW d [] (fun f vs => PySem.call f vs) :=
  Att.attach_call most plain fun w _ s₁ mg mb fa _ _ _ _ a vs ns G Y _ _ _ at_law at_a are few calm => by
    obtain ⟨K, KX, T⟩ := Y
    obtain ⟨_, F⟩ := law w mg fa _ K KX T G.T.g at_law
    refine lawT ⟨KX, G.T.g, ⟨mb, G.T.b, G.T.builtins⟩, G.T.nolimit⟩ calm ⟨at_a, are, Nat.le_trans few fits⟩ ⟨fun p hp => ?_, fun p hp => ?_, fun p hp => ?_⟩ G.T.bmain room F fun H hT reads => true' K H a ns few (fun p hp => hT _ (List.mem_map.mpr ⟨p, hp, rfl⟩)) reads
    · obtain ⟨z, hz, rfl⟩ := List.mem_map.mp hp
      exact PySem.W.codeHd_of_K KX (T.hd z hz)
    · obtain ⟨z, hz, rfl⟩ := List.mem_map.mp hp
      exact T.empty z hz
    · obtain ⟨z, hz, rfl⟩ := List.mem_map.mp hp
      exact T.out z hz
section
variable {K : PySem.W.Frag} {h : Heap} {mg : Str → Option Value}
theorem aG_ok {x : Str} (c : aG x K = true) : PySem.W.nsIn K mainGlobals x = some (some (.ref (He.ga K x))) := He.eqO_ok c
theorem aZ_ok {x : Str} (c : aZ x K = true) : PySem.W.nsIn K mainGlobals x = some none := He.eqO_ok c
theorem aI_ok (X : K.In h) (G : h.Ns mainGlobals mg) {x : Str} {i : Int} (c : aI x i K = true) : ∃ t, mg x = some (.int i t) := He.int_ok X G c
theorem aS_ok (X : K.In h) (G : h.Ns mainGlobals mg) {x z : Str} (c : aS x z K = true) : ∃ t, mg x = some (.str z t) := He.str_ok X G c
theorem aM_ok {C m : Str} (c : aM C m K = true) : Meth K (He.ga K C) m (He.ma K (He.ga K C) m) := He.meth_ok c
theorem aN_ok {C f : Str} (c : aN C f K = true) : PySem.W.findIn K (.ref (He.ga K C)) f = some none := He.eqO_ok c
theorem aMk_ok {C : Str} (c : aMk C K = true) : PySem.W.makesIn K (He.ga K C) = true ∧ PySem.W.keepIn K (.ref (He.ga K C)) = true := He.ba c
theorem aExm_ok {C c' : Str} {b : Bool} (c : aExm C c' b K = true) : PySem.W.exmOne K (.ref (He.ga K C)) (.ref (He.ga K c')) = some b := of_decide_eq_true c
theorem aOb_ok {n : Str} (c : aOb n K = true) : ObjK K n (He.ga K n) := by
  obtain ⟨h1, c⟩ := He.ba c
  obtain ⟨h2, c⟩ := He.ba c
  obtain ⟨h3, c⟩ := He.ba c
  obtain ⟨h4, c⟩ := He.ba c
  obtain ⟨h5, c⟩ := He.ba c
  obtain ⟨h6, c⟩ := He.ba c
  obtain ⟨h7, c⟩ := He.ba c
  obtain ⟨h8, c⟩ := He.ba c
  obtain ⟨h9, h10⟩ := He.ba c
  have k : ∀ T ∈ ["int", "bool", "str", "tuple", "list", "dict"], PySem.W.kitOne K (.ref (He.ga K n)) (.type T) = some false := fun T hT => of_decide_eq_true (List.all_eq_true.mp h2 T hT)
  exact objK_mk (He.eqO_ok h1) (k "int" (by simp)) (k "bool" (by simp)) (k "str" (by simp)) (k "tuple" (by simp)) (k "list" (by simp)) (k "dict" (by simp)) h3 h4 h5 (He.eqO_ok h6) (He.eqO_ok h7) (He.eqO_ok h8) (of_decide_eq_true h9) (of_decide_eq_true h10)
theorem exLB_ok {C : Addr} {n : Str} (q : exLB K C n = true) : ∃ (nm q' : Str) (N : Addr) (bs bm : List Value) (sn : List Str) (sub : List Value) (ab : Bool) (col : Option Bool) (dd : Option Addr) (k0 k1 k2 k3 k5 : Option Value),
    K.lookup C = some (excClassObj nm q' C N bs bm true sn sub ab col dd k0 k1 k2 k3 k5 "ValueError.__new__") ∧ PySem.HandSPX.refsVE bm = true ∧ (PySem.W.clsIn K C).map (·.name) = some n := by
  unfold exLB at q
  split at q
  · rename_i dd cd sl ho
    have hc : PySem.W.clsIn K C = some cd := by unfold PySem.W.clsIn; rw [ho]
    split at q
    · rename_i C' bm k0 k1 k2 k3 nid k5 hm hs
      simp only [Bool.and_eq_true, beq_iff_eq, Bool.not_eq_true', decide_eq_true_eq] at q
      obtain ⟨rfl, rfl, hdel, hdict, hr, rfl⟩ := q
      rw [hc]
      obtain ⟨nm, bs, mro, ns, qn, hd, sn, sub, ab, col, del⟩ := cd
      dsimp only at hm hdel hdict
      subst hm hdel hdict
      have hsl : sl = #[k0, k1, k2, k3, some (.builtin "ValueError.__new__"), k5] := by
        obtain ⟨l⟩ := sl
        simp only at hs
        rw [hs]
      subst hsl
      exact ⟨nm, qn, ns, bs, bm, sn, sub, ab, col, dd, k0, k1, k2, k3, k5, ho, hr, rfl⟩
    · cases q
  · cases q
theorem aCF_ok {n : Str} (c : aCF n K = true) : CF K n (He.ga K n) := by
  obtain ⟨h1, c⟩ := He.ba c
  obtain ⟨h2, c⟩ := He.ba c
  obtain ⟨h3, c⟩ := He.ba c
  obtain ⟨h4, c⟩ := He.ba c
  obtain ⟨h5, c⟩ := He.ba c
  obtain ⟨h6, c⟩ := He.ba c
  obtain ⟨h7, c⟩ := He.ba c
  obtain ⟨h8, c⟩ := He.ba c
  obtain ⟨h9, c⟩ := He.ba c
  obtain ⟨h10, c⟩ := He.ba c
  obtain ⟨h11, h12⟩ := He.ba c
  obtain ⟨nm, q', N, bs, bm, sn, sub, ab, col, dd, k0, k1, k2, k3, k5, lc, bmv, cn⟩ := exLB_ok h1
  exact ⟨⟨⟨nm, q', N, bs, bm, sn, sub, ab, col, dd, k0, k1, k2, k3, k5, lc, bmv⟩, He.eqO_ok h2, of_decide_eq_true h3, of_decide_eq_true h4, h5⟩, cn, ⟨He.eqO_ok h6, He.eqO_ok h7, of_decide_eq_true h3, h8⟩, ⟨He.eqO_ok h6, He.eqO_ok h7, of_decide_eq_true h3, h8, He.eqO_ok h9, He.eqO_ok h10, of_decide_eq_true h11, of_decide_eq_true h12⟩⟩
theorem xCo_ok {fI C : Addr} {file : Str} (h : xCo K fI C file = true) {oc : Value} {od : Option Addr} {osl : Array (Option Value)} {fd : FuncData} (l : K.lookup fI = some ⟨oc, od, .func fd, osl⟩) : ∃ (cda : Addr) (y : Str) (cc : Addr), fd.code = .ref cda ∧ fd.closure = [(y, cc)] ∧
    (∃ (ccl : Value) (cdd : Option Addr) (cvs : Array Value) (ccs : Array (Option Value)) (tf : Tok), K.lookup cda = some ⟨ccl, cdd, .fields cvs, ccs⟩ ∧ cvs[2]? = some (.str file tf)) ∧ ∃ (cl : Value) (cld : Option Addr) (csl : Array (Option Value)), K.lookup cc = some ⟨cl, cld, .cell (some (.ref C)), csl⟩ := by
  unfold xCo at h
  rw [l] at h
  dsimp only at h
  split at h
  · rename_i cda y cc e1 e2
    obtain ⟨h1, h2⟩ := He.ba h
    refine ⟨cda, y, cc, e1, e2, ?_, ?_⟩
    · split at h1
      · rename_i ccl cdd cvs ccs q
        split at h1
        · rename_i f t q2
          rw [of_decide_eq_true h1]
          exact ⟨_, _, cvs, _, t, q, q2⟩
        · cases h1
      · cases h1
    · split at h2
      · rename_i cl cld D csl q
        rw [← (beq_iff_eq.mp h2 : D = C)]
        exact ⟨_, _, _, q⟩
      · cases h2
  · cases h
structure XFa (K : PySem.W.Frag) (n : Str) (fs : List Str) (file : Str) (qual : Str) (st : Stmt) : Prop where
  c : ∃ cd, PySem.W.clsIn K (He.ga K n) = some cd
  sub : PySem.W.mroIn K (He.ga K n) (.ref (He.ga K n)) = some true
  opq : PySem.W.nsIn K cStatics "thirdparty.any" = some none
  ini : PySem.W.ks_superIn K (He.ga K n) (He.ga K n) "__init__" = some (some (.builtin "ValueError.__init__"))
  ve : PySem.W.subIn K (.ref (He.ga K n)) (.type "ValueError") = some true
  iC : PySem.W.findIn K (.ref (He.ga K n)) "__init__" = some (some (.ref (He.ma K (He.ga K n) "__init__")))
  tI : PySem.W.typeIn K (.ref (He.ma K (He.ga K n) "__init__")) = some (.type "function")
  hsm : PySem.W.nsIn K mainGlobals "super" = some none
  hf : ∀ f ∈ fs, PySem.W.findIn K (.ref (He.ga K n)) f = some none
  lk : ∃ (oc : Value) (od : Option Addr) (dc pm : Value) (an : Option Addr) (cda cc : Addr) (ct : Value) (osl : Array (Option Value)) (ccl : Value) (cdd : Option Addr) (cvs : Array Value) (ccs : Array (Option Value)) (tf : Tok) (cl : Value) (cld : Option Addr) (csl : Array (Option Value)),
    K.lookup (He.ma K (He.ga K n) "__init__") = some ⟨oc, od, .func (PySem.W.fnX "__init__" qual (defArgs st) (defBody st) (defScope st) [("__class__", cc)] .none .none dc pm an (.ref cda) ct), osl⟩ ∧ PySem.W.codeIn K (.ref cda) qual = true ∧ K.lookup cda = some ⟨ccl, cdd, .fields cvs, ccs⟩ ∧ cvs[2]? = some (.str file tf) ∧ K.lookup cc = some ⟨cl, cld, .cell (some (.ref (He.ga K n))), csl⟩
theorem aX_ok {n : Str} {fs : List Str} {file qual : Str} {st : Stmt} (c : aX n fs file K = true) {d : DefF} (e : fnO K (d.at_ K) = d.val) (k : d.ok K = true) (hd : d = ⟨fun K => He.ma K (He.ga K n) "__init__", "__init__", qual, st, ["__class__"]⟩) : XFa K n fs file qual st := by
  obtain ⟨h1, c⟩ := He.ba c
  obtain ⟨h2, c⟩ := He.ba c
  obtain ⟨h3, c⟩ := He.ba c
  obtain ⟨h4, c⟩ := He.ba c
  obtain ⟨h5, c⟩ := He.ba c
  obtain ⟨h6, c⟩ := He.ba c
  obtain ⟨h7, c⟩ := He.ba c
  obtain ⟨h8, c⟩ := He.ba c
  obtain ⟨h9, h10⟩ := He.ba c
  obtain ⟨oc, od, kV, dc, pm, an, cd, ct, sl, cl, l, hcl, k1, _, kv⟩ := DefF.get e k
  subst hd
  obtain rfl := kv rfl
  obtain ⟨cda, y, cc, e1, e2, ⟨ccl, cdd, cvs, ccs, tf, q1, q2⟩, cl', cld, csl, q3⟩ := xCo_ok h10 l
  obtain rfl : cd = .ref cda := e1
  obtain rfl : cl = [(y, cc)] := e2
  obtain rfl : y = "__class__" := (List.cons.inj hcl).1
  exact ⟨Option.isSome_iff_exists.mp h1, of_decide_eq_true h2, He.eqO_ok h3, He.eqO_ok h4, of_decide_eq_true h5, He.eqO_ok h6, of_decide_eq_true h7, He.eqO_ok h8, fun f hf => He.eqO_ok (List.all_eq_true.mp h9 f hf),
    oc, od, dc, pm, an, cda, cc, ct, sl, ccl, cdd, cvs, ccs, tf, cl', cld, csl, l, k1, q1, q2, q3⟩
theorem aPr_ok {C m : Str} (c : aPr C m K = true) : PySem.W.findIn K (.ref (He.ga K C)) m = some (some (.ref (He.ma K (He.ga K C) m))) ∧ PySem.W.specialIn K (.ref (He.ma K (He.ga K C) m)) "__get__" = some (some (.builtin "property.__get__")) ∧ PySem.W.takesIn K (.ref (He.ma K (He.ga K C) m)) = some true ∧
    ∃ rest, PySem.W.recIn K (He.ma K (He.ga K C) m) "property" = some (.ref (prF K C m) :: rest) := by
  obtain ⟨h1, c⟩ := He.ba c
  obtain ⟨h2, c⟩ := He.ba c
  obtain ⟨h3, h4⟩ := He.ba c
  refine ⟨He.eqO_ok h1, He.eqO_ok h2, of_decide_eq_true h3, ?_⟩
  unfold prF
  split at h4
  · rename_i f rest q
    rw [q]
    exact ⟨rest, rfl⟩
  · cases h4
end
end DL
set_option Elab.async false
set_option linter.all false
set_option maxRecDepth 100000
set_option maxHeartbeats 4000000
namespace DL
open PySem PySem.Spec PyProof.Rows L2
variable [Tb]
def valI (kvs : List (Int × PyData)) (k : Int) : Option PyData := (kvs.find? fun p => decide (p.1 = k)).map (·.2)
def putI (kvs : List (Int × PyData)) (k : Int) (x : PyData) : List (Int × PyData) := if (kvs.any fun p => decide (p.1 = k)) = true then kvs.map (fun p => if p.1 = k then (p.1, x) else p) else kvs ++ [(k, x)]
def DnI (K : PySem.W.Frag) (G : Hp) (ws : List (Key × V)) (kvs : List (Int × PyData)) : Prop := ws.map (·.1) = kvs.map (fun p => (Sum.inl p.1 : Key)) ∧ DnL K G (ws.map (·.2)) (kvs.map (·.2))
section
variable {K : PySem.W.Frag} {B G G' H H' : Hp} {δ : DS} {σ : L2.St} {a : Addr} {i : Nat}
theorem DnI.nil : DnI K G [] [] := ⟨rfl, .nil⟩
theorem DnI.inv {ws : List (Key × V)} {p : Int × PyData} {kvs : List (Int × PyData)} (h : DnI K G ws (p :: kvs)) : ∃ v ws', ws = (Sum.inl p.1, v) :: ws' ∧ Dn K G v p.2 ∧ DnI K G ws' kvs := by
  obtain ⟨e, t⟩ := h
  match ws, e, t with
  | w :: ws, e, t =>
    rw [List.map_cons, List.map_cons, List.cons.injEq] at e
    rw [List.map_cons, List.map_cons] at t
    cases t with
    | cons d t => exact ⟨w.2, ws, by rw [← e.1], d, e.2, t⟩
theorem DnI.inv0 {ws : List (Key × V)} (h : DnI K G ws []) : ws = [] := by simpa using h.1
theorem DnI.con {p : Int × PyData} {v : V} {ws : List (Key × V)} {kvs : List (Int × PyData)} (d : Dn K G v p.2) (t : DnI K G ws kvs) : DnI K G ((Sum.inl p.1, v) :: ws) (p :: kvs) :=
  ⟨by rw [List.map_cons, List.map_cons, t.1], .cons d t.2⟩
theorem DnI.len : ∀ {kvs : List (Int × PyData)} {ws : List (Key × V)}, DnI K G ws kvs → ws.length = kvs.length
  | [], _, h => by rw [h.inv0]; rfl
  | p :: kvs, _, h => by
    obtain ⟨v, ws', rfl, _, t⟩ := h.inv
    simp [t.len]
theorem DnI.mono {kvs : List (Int × PyData)} {ws : List (Key × V)} (h : DnI K G ws kvs) (s : Same G G') : DnI K G' ws kvs := ⟨h.1, h.2.mono s⟩
theorem DnI.val (k : Int) : ∀ {kvs : List (Int × PyData)} {ws : List (Key × V)}, DnI K G ws kvs → (valI kvs k = none ∧ valV ws (Sum.inl k) = none) ∨ ∃ x v, valI kvs k = some x ∧ valV ws (Sum.inl k) = some v ∧ Dn K G v x
  | [], _, h => by rw [h.inv0]; exact .inl ⟨rfl, rfl⟩
  | p :: kvs, _, h => by
    obtain ⟨v, ws', rfl, d, t⟩ := h.inv
    by_cases q : p.1 = k
    · exact .inr ⟨p.2, v, by simp [valI, q], valV_pos (by simp [q]), d⟩
    · have v1 : valI (p :: kvs) k = valI kvs k := by simp [valI, q]
      have v2 : ¬ (Sum.inl p.1 : Key) = Sum.inl k := fun z => q (Sum.inl.inj z)
      rw [v1, valV_neg v2]
      exact t.val k
theorem DnI.any (k : Int) : ∀ {kvs : List (Int × PyData)} {ws : List (Key × V)}, DnI K G ws kvs → (ws.any fun w => decide (w.1 = (Sum.inl k : Key))) = kvs.any fun p => decide (p.1 = k)
  | [], _, h => by rw [h.inv0]; rfl
  | p :: kvs, _, h => by
    obtain ⟨v, ws', rfl, _, t⟩ := h.inv
    rw [List.any_cons, List.any_cons, t.any k]
    congr 1
    exact decide_eq_decide.mpr ⟨fun z => Sum.inl.inj z, fun z => by rw [z]⟩
theorem DnI.put {k : Int} {v : V} {x : PyData} (d : Dn K G v x) {kvs : List (Int × PyData)} {ws : List (Key × V)} (h : DnI K G ws kvs) : DnI K G (putK ws (Sum.inl k) v) (putI kvs k x) := by
  have snoc : ∀ {kvs : List (Int × PyData)} {ws : List (Key × V)}, DnI K G ws kvs → DnI K G (ws ++ [(Sum.inl k, v)]) (kvs ++ [(k, x)]) := fun {kvs} => by
    induction kvs with
    | nil => intro ws h; rw [h.inv0]; exact DnI.con (p := (k, x)) d .nil
    | cons p kvs ih =>
      intro ws h
      obtain ⟨u, ws', rfl, d', t⟩ := h.inv
      exact DnI.con d' (ih t)
  have repl : ∀ {kvs : List (Int × PyData)} {ws : List (Key × V)}, DnI K G ws kvs → DnI K G (ws.map fun w => if w.1 = (Sum.inl k : Key) then (w.1, v) else w) (kvs.map fun p => if p.1 = k then (p.1, x) else p) := fun {kvs} => by
    induction kvs with
    | nil => intro ws h; rw [h.inv0]; exact .nil
    | cons p kvs ih =>
      intro ws h
      obtain ⟨u, ws', rfl, d', t⟩ := h.inv
      rw [List.map_cons, List.map_cons]
      by_cases q : p.1 = k
      · rw [if_pos q, if_pos (by simp [q])]
        exact DnI.con (p := (p.1, x)) d (ih t)
      · rw [if_neg q, if_neg fun z => q (Sum.inl.inj z)]
        exact DnI.con d' (ih t)
  unfold putK putI
  rw [h.any k]
  split
  · exact repl h
  · exact snoc h
theorem Rel.frz {c : Cell} {l : List Addr} {x : PyData} {u : HO} {od : Obj} (R : Rel K B G δ σ H) (h : δ[i]? = some c) (hl : c.fp = a :: l) (ha : H a = some u) (hσ : σ[i]? = some (some (.ref a)))
    (dn : ∀ G', Same G G' → G' a = some (.frz od u) → (∀ b ∈ l, b ≠ a → G' b = H b) → Dn K G' (.ref a) x) : ∃ G', Same G G' ∧ Rel K B G' (δ.set i (.d x)) σ (upd H a (.frz od u)) ∧ Dn K G' (.ref a) x := by
  have get : ∀ {j : Nat} {y : Cell}, (δ.set i (.d x))[j]? = some y → (j = i ∧ y = .d x) ∨ (j ≠ i ∧ δ[j]? = some y) := fun {j y} e => by
    by_cases hj : j = i
    · subst hj
      rw [List.getElem?_set_self (List.getElem?_eq_some_iff.mp h).1] at e; cases e; exact .inl ⟨rfl, rfl⟩
    · rw [List.getElem?_set_ne (Ne.symm hj)] at e; exact .inr ⟨hj, e⟩
  obtain ⟨G', hG⟩ : ∃ G' : Hp, G' = fun b => if b = a then some (.frz od u) else if b ∈ l then H b else G b := ⟨_, rfl⟩
  have ga : G' a = some (.frz od u) := by rw [hG]; simp
  have gl : ∀ b ∈ l, b ≠ a → G' b = H b := fun b hb n => by rw [hG]; simp [n, hb]
  have go : ∀ b, b ∉ c.fp → G' b = G b := fun b n => by
    rw [hl] at n
    have n1 : b ≠ a := fun z => n (by rw [z]; simp)
    have n2 : b ∉ l := fun z => n (by simp [z])
    rw [hG]
    simp [n1, n2]
  have am : a ∈ c.fp := by rw [hl]; simp
  have ng : ∀ {b : Addr} {o : HO}, G b = some o → b ∉ c.fp := fun {b o} e m => by rw [(R.fr i _ b h m).1] at e; cases e
  have nb : ∀ {b : Addr} {o : HO}, B b = some o → b ∉ c.fp := fun {b o} e m => by rw [(R.fr i _ b h m).2] at e; cases e
  have sG : Same G G' := fun b o e => by rw [go b (ng e)]; exact e
  have oc := R.ok i c _ h hσ
  refine ⟨G', sG, ⟨by simp [R.len], fun b o e => ?_, fun b o e => ?_, fun b => ?_, fun j y w e1 e2 => ?_, fun j k y z b e1 e2 m1 m2 => ?_, fun j y b e1 m => ?_, ⟨tabs_upd R.tt.t (cell_te oc am), ⟨R.tt.n.b, fun b o e ps z => ?_⟩⟩⟩, dn G' sG ga gl⟩
  · by_cases hb : b = a
    · subst hb; rw [upd_same]; rw [ga] at e; exact e
    · rw [upd_ne hb]
      by_cases m : b ∈ c.fp
      · rw [hl] at m
        rcases List.mem_cons.mp m with z | z
        · exact absurd z hb
        · rw [gl b z hb] at e; exact e
      · rw [go b m] at e; exact R.sg _ _ e
  · rw [upd_ne (fun z => nb e (by rw [z]; exact am))]; exact R.sb _ _ e
  · by_cases m : b ∈ c.fp
    · exact .inr (R.fr i _ b h m).2
    · rw [go b m]; exact R.dj b
  · rcases get e1 with ⟨rfl, rfl⟩ | ⟨hj, e1⟩
    · rw [hσ] at e2; cases e2; exact ⟨_, rfl, dn G' sG ga gl⟩
    · exact (R.ok j y w e1 e2).stay sG fun b hb => upd_ne fun z => hj (R.ap j i y _ b e1 h hb (by rw [z]; exact am))
  · rcases get e1 with ⟨_, rfl⟩ | ⟨h1, e3⟩
    · cases m1
    · rcases get e2 with ⟨_, rfl⟩ | ⟨h2, e4⟩
      · cases m2
      · exact R.ap j k y z b e3 e4 m1 m2
  · rcases get e1 with ⟨_, rfl⟩ | ⟨hj, e1⟩
    · cases m
    · obtain ⟨f1, f2⟩ := R.fr j y b e1 m
      exact ⟨by rw [go b fun z => hj (R.ap j i y _ b e1 h m z)]; exact f1, f2⟩
  · subst z
    by_cases m : b ∈ c.fp
    · rw [hl] at m
      by_cases hb : b = a
      · subst hb; rw [ga] at e; cases e
      · rcases List.mem_cons.mp m with z | z
        · exact hb z
        · rw [gl b z hb] at e
          exact (cell_te oc (by rw [hl]; exact m) _ e).1 ps rfl
    · rw [go b m] at e; exact R.tt.n.g _ _ e ps rfl
end
end DL
set_option Elab.async false
set_option linter.all false
set_option maxRecDepth 100000
set_option maxHeartbeats 4000000
namespace DL
open PySem PySem.Spec PyProof.Rows L2
variable [Tb]
def fzC : Cell → Option PyData
  | .d x => some x
  | .od _ kvs => some (dTD kvs)
  | .gx (.oi _ kvs) => some (dKD kvs)
  | .gx (.og _ gs) => some (dKD (gs.map fun g => (g.1, .list g.2.2)))
  | _ => none
def onF (c : Option Cell) (k : PyData → Prop) (_u : Stop k) : Prop := ∃ x, c.bind fzC = some x ∧ k x
omit [Tb] in
@[simp ↓] theorem onF_d (x : PyData) (k : PyData → Prop) (u : Stop k) : onF (some (.d x)) k u = k x := propext ⟨fun ⟨y, e, h⟩ => by cases e; exact h, fun h => ⟨x, rfl, h⟩⟩
omit [Tb] in
@[simp ↓] theorem onF_od (a : Addr) (kvs : List (List Int × PyData)) (k : PyData → Prop) (u : Stop k) : onF (some (.od a kvs)) k u = k (dTD kvs) := propext ⟨fun ⟨y, e, h⟩ => by cases e; exact h, fun h => ⟨_, rfl, h⟩⟩
omit [Tb] in
@[simp ↓] theorem onF_oi (a : Addr) (kvs : List (Int × PyData)) (k : PyData → Prop) (u : Stop k) : onF (some (.gx (.oi a kvs))) k u = k (dKD kvs) := propext ⟨fun ⟨y, e, h⟩ => by cases e; exact h, fun h => ⟨_, rfl, h⟩⟩
omit [Tb] in
@[simp ↓] theorem onF_og (a : Addr) (gs : List (Int × Addr × List PyData)) (k : PyData → Prop) (u : Stop k) : onF (some (.gx (.og a gs))) k u = k (dKD (gs.map fun g => (g.1, .list g.2.2))) := propext ⟨fun ⟨y, e, h⟩ => by cases e; exact h, fun h => ⟨_, rfl, h⟩⟩
def wVarF (i : Nat) : DE := fun δ R => onF δ[i]? (fun x => R (.d x) (δ.set i (.d x))) .mk
omit [Tb] in
@[simp ↓] theorem wVarF_ap (i : Nat) (δ : DS) (R : Opd → DS → Prop) : wVarF i δ R = onF δ[i]? (fun x => R (.d x) (δ.set i (.d x))) .mk := rfl
section
variable {X : Cx} {e f : Expr} {pos px pos' : Pos} {x : Str} {i : Nat}
end
omit [Tb] in
theorem dKD_inj {kvs kws : List (Int × PyData)} (h : dKD kvs = dKD kws) : kvs = kws := by
  replace h := (List.cons.inj (PyData.dict.inj h)).2
  induction kvs generalizing kws with
  | nil => cases kws with
    | nil => rfl
    | cons q qs => cases h
  | cons p ps ih => cases kws with
    | nil => cases h
    | cons q qs =>
      rw [List.map_cons, List.map_cons] at h
      obtain ⟨h1, h2⟩ := List.cons.inj h
      have e1 := PyData.int.inj (Prod.mk.inj h1).1
      have e2 := (Prod.mk.inj h1).2
      rw [ih h2, show p = q from Prod.ext e1 e2]
omit [Tb] in
theorem dTD_inj {kvs kws : List (List Int × PyData)} (h : dTD kvs = dTD kws) : kvs = kws := by
  replace h := (List.cons.inj (PyData.dict.inj h)).2
  induction kvs generalizing kws with
  | nil => cases kws with
    | nil => rfl
    | cons q qs => cases h
  | cons p ps ih => cases kws with
    | nil => cases h
    | cons q qs =>
      rw [List.map_cons, List.map_cons] at h
      obtain ⟨h1, h2⟩ := List.cons.inj h
      have e1 := map_int_inj (PyData.tuple.inj (Prod.mk.inj h1).1)
      have e2 := (Prod.mk.inj h1).2
      rw [ih h2, show p = q from Prod.ext e1 e2]
def dkC (c : Option Cell) (k : List (Int × PyData) → Prop) (_u : Stop k) : Prop := ∃ kvs, ((∃ a, c = some (.gx (.oi a kvs))) ∨ c = some (.d (dKD kvs))) ∧ k kvs
omit [Tb] in
@[simp ↓] theorem dkC_oi (a : Addr) (kvs : List (Int × PyData)) (k : List (Int × PyData) → Prop) (u : Stop k) : dkC (some (.gx (.oi a kvs))) k u = k kvs :=
  propext ⟨fun ⟨ks, e, h⟩ => by rcases e with ⟨_, e⟩ | e <;> cases e; exact h, fun h => ⟨kvs, .inl ⟨a, rfl⟩, h⟩⟩
omit [Tb] in
@[simp ↓] theorem dkC_d (kvs : List (Int × PyData)) (k : List (Int × PyData) → Prop) (u : Stop k) : dkC (some (.d (dKD kvs))) k u = k kvs :=
  propext ⟨fun ⟨ks, e, h⟩ => by
    rcases e with ⟨_, e⟩ | e
    · cases e
    · rw [dKD_inj (Cell.d.inj (Option.some.inj e))]; exact h, fun h => ⟨kvs, .inr rfl, h⟩⟩
def isDk (δ : DS) (i : Nat) : Prop := ∃ kvs, (∃ a, δ[i]? = some (.gx (.oi a kvs))) ∨ δ[i]? = some (.d (dKD kvs))
omit [Tb] in
@[simp ↓] theorem isDk_oi (a : Addr) (kvs : List (Int × PyData)) (δ : DS) (i : Nat) (h : δ[i]? = some (.gx (.oi a kvs))) : isDk δ i = True := eq_true ⟨kvs, .inl ⟨a, h⟩⟩
omit [Tb] in
@[simp ↓] theorem isDk_d (kvs : List (Int × PyData)) (δ : DS) (i : Nat) (h : δ[i]? = some (.d (dKD kvs))) : isDk δ i = True := eq_true ⟨kvs, .inr h⟩
omit [Tb] in
@[simp ↓] theorem varC_gx (t : GX) (i : Nat) (k : Opd → Prop) (u : Stop k) : varC (some (.gx t)) i k u = k (.s i) := rfl
omit [Tb] in
@[simp] theorem sameIo_gx (t : GX) (cs : List Cell) (e : Cell) (δ : DS) : sameIo (.gx t :: cs) (e :: δ) = ((∃ u, e = .gx u ∧ u.hd = t.hd) ∧ sameIo cs δ) := rfl
omit [Tb] in
@[simp] theorem outC_gx (t : GX) (cs : List Cell) (e : Cell) (δ : DS) : outC (.gx t :: cs) (e :: δ) = e :: outC cs δ := rfl
omit [Tb] in
@[simp ↓] theorem hd_oi (a : Addr) (kvs : List (Int × PyData)) : (GX.oi a kvs).hd = a := rfl
omit [Tb] in
@[simp ↓] theorem hd_og (a : Addr) (gs : List (Int × Addr × List PyData)) : (GX.og a gs).hd = a := rfl
omit [Tb] in
@[simp ↓] theorem hd_bu (a l : Addr) (n f : Str) (xs : List PyData) : (GX.bu a l n f xs).hd = a := rfl
omit [Tb] in
@[simp ↓] theorem hd_b0 (a : Addr) (n : Str) : (GX.b0 a n).hd = a := rfl
section
variable {K : PySem.W.Frag} {B G H : Hp} {δ : DS} {σ : L2.St} {i : Nat} {kvs : List (Int × PyData)}
end
end DL
set_option Elab.async false
set_option linter.all false
set_option maxRecDepth 100000
set_option maxHeartbeats 4000000
namespace DL
open PySem PySem.Spec PyProof.Rows L2
variable [Tb]
def wIIn (i : Nat) (w : DE) : DE := fun δ R => w δ fun o δ1 => use o δ1 fun x => asI x (fun k => dkC δ1[i]? (fun kvs => R (.d (.bool (valI kvs k).isSome)) δ1) .mk) .mk
def wINotIn (i : Nat) (w : DE) : DE := fun δ R => w δ fun o δ1 => use o δ1 fun x => asI x (fun k => dkC δ1[i]? (fun kvs => R (.d (.bool (!(valI kvs k).isSome))) δ1) .mk) .mk
def wIGet (i : Nat) (w : DE) : DE := fun δ R => isDk δ i ∧ w δ fun o δ1 => use o δ1 fun x => asI x (fun k => dkC δ1[i]? (fun kvs => onS (valI kvs k) (fun y => R (.d y) δ1) .mk) .mk) .mk
def wIGetC (i : Nat) (w u : DE) : DE := fun δ R => isDk δ i ∧ w δ fun o δ1 => u δ1 fun o2 δ2 => use o δ2 fun x => asI x (fun k => lk o2 δ2 fun y δ3 => dkC δ3[i]? (fun kvs => R (.d ((valI kvs k).getD y)) δ3) .mk) .mk
def oiC (c : Option Cell) (k : Addr → List (Int × PyData) → Prop) (_u : Stop k) : Prop := ∃ a kvs, c = some (.gx (.oi a kvs)) ∧ k a kvs
def isOi (δ : DS) (i : Nat) : Prop := ∃ a kvs, δ[i]? = some (.gx (.oi a kvs))
def wIPut (i : Nat) (wk wv : DE) : DTS := fun E δ => isOi δ i ∧ wv δ fun o δ1 => lk o δ1 fun x δ2 => wk δ2 fun o2 δ3 => use o2 δ3 fun y => asI y (fun k => oiC δ3[i]? (fun a kvs => kvs.length ≤ 2000000 ∧ E.nx (δ3.set i (.gx (.oi a (putI kvs k x))))) .mk) .mk
def mDI : DM := fun δ R => ∀ a, R (.gx (.oi a [])) δ
def mDG : DM := fun δ R => ∀ a, R (.gx (.og a [])) δ
def mDI1 (wk wv : DE) : DM := fun δ R => wk δ fun o δ1 => use o δ1 fun x => asI x (fun k => wv δ1 fun o2 δ2 => lk o2 δ2 fun y δ3 => ∀ a, R (.gx (.oi a [(k, y)])) δ3) .mk
omit [Tb] in
@[simp ↓] theorem wIIn_ap (i : Nat) (w : DE) (δ : DS) (R : Opd → DS → Prop) : wIIn i w δ R = (w δ fun o δ1 => use o δ1 fun x => asI x (fun k => dkC δ1[i]? (fun kvs => R (.d (.bool (valI kvs k).isSome)) δ1) .mk) .mk) := rfl
omit [Tb] in
@[simp ↓] theorem wINotIn_ap (i : Nat) (w : DE) (δ : DS) (R : Opd → DS → Prop) : wINotIn i w δ R = (w δ fun o δ1 => use o δ1 fun x => asI x (fun k => dkC δ1[i]? (fun kvs => R (.d (.bool (!(valI kvs k).isSome))) δ1) .mk) .mk) := rfl
omit [Tb] in
@[simp ↓] theorem wIGet_ap (i : Nat) (w : DE) (δ : DS) (R : Opd → DS → Prop) : wIGet i w δ R = (isDk δ i ∧ w δ fun o δ1 => use o δ1 fun x => asI x (fun k => dkC δ1[i]? (fun kvs => onS (valI kvs k) (fun y => R (.d y) δ1) .mk) .mk) .mk) := rfl
omit [Tb] in
@[simp ↓] theorem wIGetC_ap (i : Nat) (w u : DE) (δ : DS) (R : Opd → DS → Prop) : wIGetC i w u δ R = (isDk δ i ∧ w δ fun o δ1 => u δ1 fun o2 δ2 => use o δ2 fun x => asI x (fun k => lk o2 δ2 fun y δ3 => dkC δ3[i]? (fun kvs => R (.d ((valI kvs k).getD y)) δ3) .mk) .mk) := rfl
omit [Tb] in
@[simp ↓] theorem wIPut_ap (i : Nat) (wk wv : DE) (E : DEnds) (δ : DS) : wIPut i wk wv E δ = (isOi δ i ∧ wv δ fun o δ1 => lk o δ1 fun x δ2 => wk δ2 fun o2 δ3 => use o2 δ3 fun y => asI y (fun k => oiC δ3[i]? (fun a kvs => kvs.length ≤ 2000000 ∧ E.nx (δ3.set i (.gx (.oi a (putI kvs k x))))) .mk) .mk) := rfl
omit [Tb] in
@[simp ↓] theorem mDI_ap (δ : DS) (R : Cell → DS → Prop) : mDI δ R = ∀ a, R (.gx (.oi a [])) δ := rfl
omit [Tb] in
@[simp ↓] theorem mDG_ap (δ : DS) (R : Cell → DS → Prop) : mDG δ R = ∀ a, R (.gx (.og a [])) δ := rfl
omit [Tb] in
@[simp ↓] theorem mDI1_ap (wk wv : DE) (δ : DS) (R : Cell → DS → Prop) : mDI1 wk wv δ R = (wk δ fun o δ1 => use o δ1 fun x => asI x (fun k => wv δ1 fun o2 δ2 => lk o2 δ2 fun y δ3 => ∀ a, R (.gx (.oi a [(k, y)])) δ3) .mk) := rfl
omit [Tb] in
@[simp ↓] theorem oiC_oi (a : Addr) (kvs : List (Int × PyData)) (k : Addr → List (Int × PyData) → Prop) (u : Stop k) : oiC (some (.gx (.oi a kvs))) k u = k a kvs :=
  propext ⟨fun ⟨b, ks, e, h⟩ => by cases e; exact h, fun h => ⟨a, kvs, rfl, h⟩⟩
omit [Tb] in
@[simp ↓] theorem isOi_oi (a : Addr) (kvs : List (Int × PyData)) (δ : DS) (i : Nat) (h : δ[i]? = some (.gx (.oi a kvs))) : isOi δ i = True := eq_true ⟨a, kvs, h⟩
section
variable {X : Cx} {e f : Expr} {pos pos' px apos cpos : Pos} {x : Str} {i : Nat}
theorem DnI.some {K : PySem.W.Frag} {G : Hp} {ws : List (Key × V)} {kvs : List (Int × PyData)} (d : DnI K G ws kvs) (k : Int) : (valV ws (Sum.inl k)).isSome = (valI kvs k).isSome := by
  rcases d.val k with ⟨q1, q2⟩ | ⟨x, v, q1, q2, _⟩ <;> rw [q1, q2] <;> rfl
end
end DL
set_option Elab.async false
set_option linter.all false
set_option maxRecDepth 100000
set_option maxHeartbeats 4000000
namespace DL
open PySem PySem.Spec PyProof.Rows L2
variable [Tb]
section
variable {X : Cx} {e f : Expr} {pos pos' px p1 apos cpos : Pos} {x : Str} {i : Nat}
end
abbrev Gs := List (Int × Addr × List PyData)
def firstG (gs : Gs) (n : Int) : Option (Addr × List PyData) := (gs.find? fun g => decide (g.1 = n)).map (·.2)
def putG (gs : Gs) (n : Int) (l : Addr) : Gs := if (firstG gs n).isSome then gs else gs ++ [(n, l, [])]
def appG : Gs → Int → PyData → Gs
  | [], _, _ => []
  | g :: gs, n, y => if g.1 = n then (g.1, g.2.1, g.2.2 ++ [y]) :: gs else g :: appG gs n y
def ogC (c : Option Cell) (k : Addr → Gs → Prop) (_u : Stop k) : Prop := ∃ a gs, c = some (.gx (.og a gs)) ∧ k a gs
omit [Tb] in
@[simp ↓] theorem ogC_og (a : Addr) (gs : Gs) (k : Addr → Gs → Prop) (u : Stop k) : ogC (some (.gx (.og a gs))) k u = k a gs :=
  propext ⟨fun ⟨b, ks, e, h⟩ => by cases e; exact h, fun h => ⟨a, gs, rfl, h⟩⟩
def isOg (δ : DS) (i : Nat) : Prop := ∃ a gs, δ[i]? = some (.gx (.og a gs))
omit [Tb] in
@[simp ↓] theorem isOg_og (a : Addr) (gs : Gs) (δ : DS) (i : Nat) (h : δ[i]? = some (.gx (.og a gs))) : isOg δ i = True := eq_true ⟨a, gs, h⟩
def wGApp (i : Nat) (wk wv : DE) : DTS := fun E δ => isOg δ i ∧ wk δ fun o δ1 => use o δ1 fun x => asI x (fun n => ogC δ1[i]? (fun a gs => (gs.length ≤ 1000000 ∧ ∀ g ∈ gs, g.2.2.length ≤ 1000000) ∧ ∀ l, wv (δ1.set i (.gx (.og a (putG gs n l)))) fun o2 δ2 => lk o2 δ2 fun y δ3 => δ3[i]? = some (.gx (.og a (putG gs n l))) ∧ E.nx (δ3.set i (.gx (.og a (appG (putG gs n l) n y))))) .mk) .mk
omit [Tb] in
@[simp ↓] theorem wGApp_ap (i : Nat) (wk wv : DE) (E : DEnds) (δ : DS) : wGApp i wk wv E δ = (isOg δ i ∧ wk δ fun o δ1 => use o δ1 fun x => asI x (fun n => ogC δ1[i]? (fun a gs => (gs.length ≤ 1000000 ∧ ∀ g ∈ gs, g.2.2.length ≤ 1000000) ∧ ∀ l, wv (δ1.set i (.gx (.og a (putG gs n l)))) fun o2 δ2 => lk o2 δ2 fun y δ3 => δ3[i]? = some (.gx (.og a (putG gs n l))) ∧ E.nx (δ3.set i (.gx (.og a (appG (putG gs n l) n y))))) .mk) .mk) := rfl
section
variable {K : PySem.W.Frag} {B G H : Hp} {δ : DS} {σ : L2.St} {i : Nat}
omit [Tb] in
theorem firstG_cons (g : Int × Addr × List PyData) (gs : Gs) (n : Int) : firstG (g :: gs) n = if g.1 = n then some g.2 else firstG gs n := by
  unfold firstG
  rw [List.find?_cons]
  by_cases h : g.1 = n <;> simp [h]
abbrev wsG (gs : Gs) : List (Key × V) := gs.map fun g => ((Sum.inl g.1 : Key), V.ref g.2.1)
theorem valG (n : Int) : ∀ gs : Gs, valV (wsG gs) (Sum.inl n) = (firstG gs n).map fun p => V.ref p.1
  | [] => rfl
  | g :: gs => by
    rw [firstG_cons]
    by_cases h : g.1 = n
    · rw [if_pos h]
      exact valV_pos (by simp [h])
    · rw [if_neg h]
      have v2 : ¬ (Sum.inl g.1 : Key) = Sum.inl n := fun z => h (Sum.inl.inj z)
      show valV (((Sum.inl g.1 : Key), V.ref g.2.1) :: wsG gs) _ = _
      rw [valV_neg v2]
      exact valG n gs
end
section
variable {X : Cx} {e f : Expr} {pos px p1 p2 apos cpos apos' cpos' : Pos} {x : Str} {i : Nat}
end
end DL
set_option Elab.async false
set_option linter.all false
set_option maxRecDepth 100000
set_option maxHeartbeats 4000000
namespace DL
open PySem PySem.Spec PyProof.Rows L2 StX
variable [Tb]
def obHead (o : Opd) (δ : DS) (n mn : Str) : Prop :=
  match o with
  | .d x => ∃ fs, x = obD n fs ∧ fs.lookup mn = none
  | .s i => (∃ a fs, δ[i]? = some (.ob a n fs) ∧ fs.lookup mn = none) ∨ ∃ a l f xs, δ[i]? = some (.gx (.bu a l n f xs)) ∧ (mn == f) = false
def wMethM (m : List Bool) (n mn : Str) (sp : DSp) (w : DE) (wa : DA) : DE := fun δ R => w δ fun o δ1 => obHead o δ1 n mn ∧ wa δ1 fun os δ2 => lkM m (o :: os) δ2 fun os' δ3 => (slotsOf os').Nodup ∧ ask sp (os'.map (cellOf δ3)) (fun x cs => R (.d x) (putBack os' cs δ3)) .mk
omit [Tb] in
@[simp ↓] theorem wMethM_ap (m : List Bool) (n mn : Str) (sp : DSp) (w : DE) (wa : DA) (δ : DS) (R : Opd → DS → Prop) : wMethM m n mn sp w wa δ R = (w δ fun o δ1 => obHead o δ1 n mn ∧ wa δ1 fun os δ2 => lkM m (o :: os) δ2 fun os' δ3 => (slotsOf os').Nodup ∧ ask sp (os'.map (cellOf δ3)) (fun x cs => R (.d x) (putBack os' cs δ3)) .mk) := rfl
omit [Tb] in
@[simp ↓] theorem obHead_d (x : PyData) (δ : DS) (n mn : Str) : obHead (.d x) δ n mn = obC x n (fun fs => fs.lookup mn = none) .mk := rfl
section
variable {X : Cx} {k : Nat} {f C : Addr} {fd : FuncData} {ps : List Str} {sp : DSp} {o e : Expr} {es : List Expr} {w : DE} {wa : DA} {n mn x : Str} {apos pos p : Pos} {m : List Bool}
end
def pLenD : PN := one fun x R => ∃ kvs, x = dKD kvs ∧ R (.int kvs.length)
omit [Tb] in
@[simp ↓] theorem pLenD_K (kvs : List (Int × PyData)) (R : PyData → Prop) : pLenD [dKD kvs] R = R (.int kvs.length) :=
  propext ⟨fun ⟨ks, e, h⟩ => by rw [dKD_inj e]; exact h, fun h => ⟨kvs, rfl, h⟩⟩
def wLenT (i : Nat) : DE := fun δ R => odC δ[i]? (fun _ kvs => R (.d (.int kvs.length)) δ) .mk
omit [Tb] in
@[simp ↓] theorem wLenT_ap (i : Nat) (δ : DS) (R : Opd → DS → Prop) : wLenT i δ R = odC δ[i]? (fun _ kvs => R (.d (.int kvs.length)) δ) .mk := rfl
section
variable {K : PySem.W.Frag} {G H : Hp} {v : V}
end
section
variable {X : Cx}
def pLstK : List PyData → (List PyData → Prop) → Prop := oneL fun x R => ∃ kvs, x = dKD kvs ∧ R (kvs.map fun p => .int p.1)
end
omit [Tb] in
@[simp ↓] theorem pLstK_K (kvs : List (Int × PyData)) (R : List PyData → Prop) : pLstK [dKD kvs] R = R (kvs.map fun p => .int p.1) :=
  propext ⟨fun ⟨ks, e, h⟩ => by rw [dKD_inj e]; exact h, fun h => ⟨kvs, rfl, h⟩⟩
def wDGetC (i : Nat) (w u : DE) : DE := fun δ R => isOd δ i ∧ w δ fun o δ1 => u δ1 fun o2 δ2 => use o δ2 fun x => keyOf x (fun k => lk o2 δ2 fun y δ3 => odC δ3[i]? (fun _ kvs => R (.d ((valD kvs k).getD y)) δ3) .mk) .mk
omit [Tb] in
@[simp ↓] theorem wDGetC_ap (i : Nat) (w u : DE) (δ : DS) (R : Opd → DS → Prop) : wDGetC i w u δ R = (isOd δ i ∧ w δ fun o δ1 => u δ1 fun o2 δ2 => use o δ2 fun x => keyOf x (fun k => lk o2 δ2 fun y δ3 => odC δ3[i]? (fun _ kvs => R (.d ((valD kvs k).getD y)) δ3) .mk) .mk) := rfl
def pShr : P2 := ints2 fun i j R => 0 ≤ j ∧ R (.int (i / 2 ^ j.toNat))
omit [Tb] in
@[simp ↓] theorem pShr_i (i j : Int) (R : PyData → Prop) : pShr (.int i) (.int j) R = (0 ≤ j ∧ R (.int (i / 2 ^ j.toNat))) := rfl
section
variable {X : Cx} {e f : Expr} {pos pos' px apos cpos : Pos} {x : Str} {i : Nat}
end
end DL
set_option Elab.async false
set_option linter.all false
set_option maxRecDepth 100000
set_option maxHeartbeats 4000000
namespace DL
open PySem PySem.Spec PyProof.Rows L2 StX
variable [Tb]
section
variable {K : PySem.W.Frag} {B G H : Hp} {δ : DS} {σ : L2.St} {a : Addr} {n : Str} {C dx : Addr} {i : Nat}
theorem Rel.tail {c : Cell} {o : Option V} {cs : List Cell} {τ : L2.St} (R : Rel K B G (c :: cs) (o :: τ) H) : Rel K B G cs τ H :=
  ⟨by have := R.len; simpa using this, R.sg, R.sb, R.dj, fun i c w e1 e2 => R.ok (i + 1) c w e1 e2, fun i j c c' b e1 e2 m1 m2 => Nat.succ.inj (R.ap (i + 1) (j + 1) c c' b e1 e2 m1 m2), fun i c b e m => R.fr (i + 1) c b e m, R.tt⟩
end
def outGx (cs : List Cell) (k : GX → Prop) (_u : Stop k) : Prop := ∃ t rest, cs = .gx t :: rest ∧ k t
omit [Tb] in
@[simp ↓] theorem outGx_cons (t : GX) (rest : List Cell) (k : GX → Prop) (u : Stop k) : outGx (.gx t :: rest) k u = k t :=
  propext ⟨fun ⟨s, r, e, h⟩ => by cases e; exact h, fun h => ⟨t, rest, rfl, h⟩⟩
def mMake0 (n : Str) (sp : DSp) : DM := fun δ R => ∀ a : Addr, ask sp [.gx (.b0 a n)] (fun y cs => y = .none ∧ outGx cs (fun t => R (.gx t) δ) .mk) .mk
omit [Tb] in
@[simp ↓] theorem mMake0_ap (n : Str) (sp : DSp) (δ : DS) (R : Cell → DS → Prop) : mMake0 n sp δ R = ∀ a : Addr, ask sp [.gx (.b0 a n)] (fun y cs => y = .none ∧ outGx cs (fun t => R (.gx t) δ) .mk) .mk := rfl
section
variable {X : Cx} {CX : CXT} {k : Nat} {f C : Addr} {fd : FuncData} {ps : List Str} {n x : Str} {p pos px p1 p2 apos cpos : Pos} {i : Nat} {e : Expr} {w : DE} {fl : Str}
end
def b0C (c : Option Cell) (n : Str) (k : Addr → Prop) (_u : Stop k) : Prop := ∃ a, c = some (.gx (.b0 a n)) ∧ k a
omit [Tb] in
@[simp ↓] theorem b0C_b0 (a : Addr) (n : Str) (k : Addr → Prop) (u : Stop k) : b0C (some (.gx (.b0 a n))) n k u = k a :=
  propext ⟨fun ⟨b, e, h⟩ => by cases e; exact h, fun h => ⟨a, rfl, h⟩⟩
def buC (c : Option Cell) (n f : Str) (k : Addr → Addr → List PyData → Prop) (_u : Stop k) : Prop := ∃ a l xs, c = some (.gx (.bu a l n f xs)) ∧ k a l xs
omit [Tb] in
@[simp ↓] theorem buC_bu (a l : Addr) (n f : Str) (xs : List PyData) (k : Addr → Addr → List PyData → Prop) (u : Stop k) : buC (some (.gx (.bu a l n f xs))) n f k u = k a l xs :=
  propext ⟨fun ⟨_, _, _, e, h⟩ => by cases e; exact h, fun h => ⟨a, l, xs, rfl, h⟩⟩
def wBuNew (i : Nat) (n f : Str) : DTS := fun E δ => b0C δ[i]? n (fun a => ∀ l, E.nx (δ.set i (.gx (.bu a l n f [])))) .mk
def wBuApp (i : Nat) (n f : Str) (w : DE) : DTS := fun E δ => buC δ[i]? n f (fun _ l0 _ => w δ fun o δ1 => lk o δ1 fun y δ2 => buC δ2[i]? n f (fun a l xs => l = l0 ∧ xs.length ≤ 1000000 ∧ E.nx (δ2.set i (.gx (.bu a l n f (xs ++ [y]))))) .mk) .mk
def wBuFn (p : PN) (i : Nat) (n f : Str) : DE := fun δ R => buC δ[i]? n f (fun _ _ xs => p [.list xs] fun z => R (.d z) δ) .mk
omit [Tb] in
@[simp ↓] theorem wBuNew_ap (i : Nat) (n f : Str) (E : DEnds) (δ : DS) : wBuNew i n f E δ = b0C δ[i]? n (fun a => ∀ l, E.nx (δ.set i (.gx (.bu a l n f [])))) .mk := rfl
omit [Tb] in
@[simp ↓] theorem wBuApp_ap (i : Nat) (n f : Str) (w : DE) (E : DEnds) (δ : DS) : wBuApp i n f w E δ = buC δ[i]? n f (fun _ l0 _ => w δ fun o δ1 => lk o δ1 fun y δ2 => buC δ2[i]? n f (fun a l xs => l = l0 ∧ xs.length ≤ 1000000 ∧ E.nx (δ2.set i (.gx (.bu a l n f (xs ++ [y]))))) .mk) .mk := rfl
omit [Tb] in
@[simp ↓] theorem wBuFn_ap (p : PN) (i : Nat) (n f : Str) (δ : DS) (R : Opd → DS → Prop) : wBuFn p i n f δ R = buC δ[i]? n f (fun _ _ xs => p [.list xs] fun z => R (.d z) δ) .mk := rfl
omit [Tb] in
@[simp ↓] theorem obHead_bu (a l : Addr) (n f mn : Str) (xs : List PyData) (δ : DS) (i : Nat) (h : δ[i]? = some (.gx (.bu a l n f xs))) : obHead (.s i) δ n mn = ((mn == f) = false) :=
  propext ⟨fun q => by
    rcases q with ⟨_, _, e, _⟩ | ⟨_, _, _, _, e, q⟩
    · rw [h] at e; cases e
    · rw [h] at e; cases e; exact q, fun q => .inr ⟨a, l, f, xs, h, q⟩⟩
section
variable {X : Cx} {C : Addr} {n x fl : Str} {pos px p1 p2 apos cpos : Pos} {i : Nat} {e : Expr} {w : DE}
end
end DL
set_option Elab.async false
set_option linter.all false
set_option maxRecDepth 100000
set_option maxHeartbeats 4000000
namespace DL
open PySem PySem.Spec PyProof.Rows L2
variable [Tb]
section
variable {P : Program} {w : World} {A : Around} {E : Value → Shared → Prop} {s : Shared}
end
def soD (x : PyData) (k : PyData → Prop) : Prop := match x with
  | .list ds => ∃ ns : List Int, ds = ns.map PyData.int ∧ ns.length ≤ 1000 ∧ (∃ D : List Int, D.length < 64 ∧ ∀ j ∈ ns, j ∈ D) ∧ ∀ L : List Int, L.Pairwise (· < ·) → (∀ j, j ∈ L ↔ j ∈ ns) → k (.list (L.map PyData.int))
  | _ => False
omit [Tb] in
@[simp ↓] theorem soD_l (ds : List PyData) (k : PyData → Prop) : soD (.list ds) k = ∃ ns : List Int, ds = ns.map PyData.int ∧ ns.length ≤ 1000 ∧ (∃ D : List Int, D.length < 64 ∧ ∀ j ∈ ns, j ∈ D) ∧ ∀ L : List Int, L.Pairwise (· < ·) → (∀ j, j ∈ L ↔ j ∈ ns) → k (.list (L.map PyData.int)) := rfl
def wSoSet (w : DE) : DE := fun δ R => w δ fun o δ1 => use o δ1 fun x => soD x fun z => R (.d z) δ1
omit [Tb] in
@[simp ↓] theorem wSoSet_ap (w : DE) (δ : DS) (R : Opd → DS → Prop) : wSoSet w δ R = (w δ fun o δ1 => use o δ1 fun x => soD x fun z => R (.d z) δ1) := rfl
section
variable {X : Cx} {e : Expr} {w : DE}
end
end DL
set_option Elab.async false
set_option linter.all false
set_option maxRecDepth 100000
set_option maxHeartbeats 4000000
namespace DL
open PySem PySem.Spec PyProof.Rows L2
section
variable {X : Cx}
end
end DL
set_option Elab.async false
set_option linter.all false
set_option maxRecDepth 100000
set_option maxHeartbeats 4000000
namespace DL
open PySem PySem.Spec PyProof.Rows L2
variable [Tb]
def prK (kvs : KVs) : List PyData := kvs.map fun p => .tuple [.tuple (p.1.map PyData.int), p.2]
omit [Tb] in
theorem prK_inj : ∀ {a b : KVs}, prK a = prK b → a = b
  | [], [], _ => rfl
  | [], _ :: _, h => by cases h
  | _ :: _, [], h => by cases h
  | p :: a, q :: b, h => by
    obtain ⟨h1, h2⟩ := List.cons.inj (show PyData.tuple [.tuple (p.1.map PyData.int), p.2] :: prK a = PyData.tuple [.tuple (q.1.map PyData.int), q.2] :: prK b from h)
    obtain ⟨h3, h4⟩ := List.cons.inj (PyData.tuple.inj h1)
    rw [prK_inj h2, show p = q from Prod.ext (map_int_inj (PyData.tuple.inj h3)) (List.cons.inj h4).1]
def dOf (x : PyData) (k : KVs → Prop) (_u : Stop k) : Prop := ∃ kvs, (x = .list (prK kvs) ∨ x = .tuple (prK kvs)) ∧ (kvs.map (·.1)).Nodup ∧ (∀ p ∈ kvs, p.1 ≠ []) ∧ k kvs
omit [Tb] in
@[simp ↓] theorem dOf_l (kvs : KVs) (k : KVs → Prop) (u : Stop k) : dOf (.list (prK kvs)) k u = ((kvs.map (·.1)).Nodup ∧ (∀ p ∈ kvs, p.1 ≠ []) ∧ k kvs) :=
  propext ⟨fun ⟨ks, e, h⟩ => e.elim (fun e => by rw [prK_inj (PyData.list.inj e)]; exact h) (fun e => nomatch e), fun h => ⟨kvs, .inl rfl, h⟩⟩
omit [Tb] in
@[simp ↓] theorem dOf_t (kvs : KVs) (k : KVs → Prop) (u : Stop k) : dOf (.tuple (prK kvs)) k u = ((kvs.map (·.1)).Nodup ∧ (∀ p ∈ kvs, p.1 ≠ []) ∧ k kvs) :=
  propext ⟨fun ⟨ks, e, h⟩ => e.elim (fun e => nomatch e) (fun e => by rw [prK_inj (PyData.tuple.inj e)]; exact h), fun h => ⟨kvs, .inr rfl, h⟩⟩
section
variable {X : Cx}
def pDictF : PN := one fun x R => dOf x (fun kvs => R (dTD kvs)) .mk
def mDict (w : DA) : DM := fun δ R => w δ fun os δ1 => useL os δ1 fun xs => one (fun x _ => dOf x (fun kvs => ∀ a, R (.od a kvs) δ1) .mk) xs (fun _ => True)
def dtC (c : Option Cell) (k : KVs → Prop) (_u : Stop k) : Prop := ∃ kvs, ((∃ a, c = some (.od a kvs)) ∨ c = some (.d (dTD kvs))) ∧ k kvs
omit [Tb] in
@[simp ↓] theorem dtC_d (kvs : KVs) (k : KVs → Prop) (u : Stop k) : dtC (some (.d (dTD kvs))) k u = k kvs :=
  propext ⟨fun ⟨ks, e, h⟩ => e.elim (fun ⟨_, e⟩ => nomatch e) (fun e => by rw [dTD_inj (Cell.d.inj (Option.some.inj e))]; exact h), fun h => ⟨kvs, .inr rfl, h⟩⟩
omit [Tb] in
@[simp ↓] theorem dtC_od (a : Addr) (kvs : KVs) (k : KVs → Prop) (u : Stop k) : dtC (some (.od a kvs)) k u = k kvs :=
  propext ⟨fun ⟨ks, e, h⟩ => e.elim (fun ⟨_, e⟩ => by cases e; exact h) (fun e => nomatch e), fun h => ⟨kvs, .inl ⟨a, rfl⟩, h⟩⟩
variable {e f : Expr} {pos pos' px apos cpos : Pos} {x : Str} {i : Nat}
def wTGet (i : Nat) (w : DE) : DE := fun δ R => dtC δ[i]? (fun _ => True) .mk ∧ w δ fun o δ1 => use o δ1 fun x => keyOf x (fun k => dtC δ1[i]? (fun kvs => onS (valD kvs k) (fun y => R (.d y) δ1) .mk) .mk) .mk
def wTGetC (i : Nat) (w u : DE) : DE := fun δ R => dtC δ[i]? (fun _ => True) .mk ∧ w δ fun o δ1 => u δ1 fun o2 δ2 => use o δ2 fun x => keyOf x (fun k => lk o2 δ2 fun y δ3 => dtC δ3[i]? (fun kvs => R (.d ((valD kvs k).getD y)) δ3) .mk) .mk
def wTIn (i : Nat) (w : DE) : DE := fun δ R => w δ fun o δ1 => use o δ1 fun x => keyOf x (fun k => dtC δ1[i]? (fun kvs => R (.d (.bool (valD kvs k).isSome)) δ1) .mk) .mk
def wTNotIn (i : Nat) (w : DE) : DE := fun δ R => w δ fun o δ1 => use o δ1 fun x => keyOf x (fun k => dtC δ1[i]? (fun kvs => R (.d (.bool (!(valD kvs k).isSome))) δ1) .mk) .mk
theorem DnK.some {K : PySem.W.Frag} {G : Hp} {ws : List (List Key × V)} {kvs : KVs} (d : DnK K G ws kvs) (k : List Int) : (valV ws (keyI k)).isSome = (valD kvs k).isSome := by
  rcases d.val k with ⟨q1, q2⟩ | ⟨x, v, q1, q2, _⟩ <;> rw [q1, q2] <;> rfl
def dT_of (x : PyData) (k : KVs → Prop) (_u : Stop k) : Prop := ∃ kvs, x = dTD kvs ∧ k kvs
omit [Tb] in
@[simp ↓] theorem dT_of_d (kvs : KVs) (k : KVs → Prop) (u : Stop k) : dT_of (dTD kvs) k u = k kvs :=
  propext ⟨fun ⟨ks, e, h⟩ => by rw [dTD_inj e]; exact h, fun h => ⟨kvs, rfl, h⟩⟩
def pInT : P2 := fun x y R => keyOf x (fun k => dT_of y (fun kvs => R (.bool (valD kvs k).isSome)) .mk) .mk
def pNotInT : P2 := fun x y R => keyOf x (fun k => dT_of y (fun kvs => R (.bool (!(valD kvs k).isSome))) .mk) .mk
omit [Tb] in
@[simp ↓] theorem pInT_ap (x y : PyData) (R : PyData → Prop) : pInT x y R = keyOf x (fun k => dT_of y (fun kvs => R (.bool (valD kvs k).isSome)) .mk) .mk := rfl
omit [Tb] in
@[simp ↓] theorem pNotInT_ap (x y : PyData) (R : PyData → Prop) : pNotInT x y R = keyOf x (fun k => dT_of y (fun kvs => R (.bool (!(valD kvs k).isSome))) .mk) .mk := rfl
end
omit [Tb] in
@[simp ↓] theorem pDictF_ap (x : PyData) (R : PyData → Prop) : pDictF [x] R = dOf x (fun kvs => R (dTD kvs)) .mk := rfl
omit [Tb] in
@[simp ↓] theorem wTIn_ap (i : Nat) (w : DE) (δ : DS) (R : Opd → DS → Prop) : wTIn i w δ R = (w δ fun o δ1 => use o δ1 fun x => keyOf x (fun k => dtC δ1[i]? (fun kvs => R (.d (.bool (valD kvs k).isSome)) δ1) .mk) .mk) := rfl
omit [Tb] in
@[simp ↓] theorem wTNotIn_ap (i : Nat) (w : DE) (δ : DS) (R : Opd → DS → Prop) : wTNotIn i w δ R = (w δ fun o δ1 => use o δ1 fun x => keyOf x (fun k => dtC δ1[i]? (fun kvs => R (.d (.bool (!(valD kvs k).isSome))) δ1) .mk) .mk) := rfl
omit [Tb] in
@[simp ↓] theorem wTGet_ap (i : Nat) (w : DE) (δ : DS) (R : Opd → DS → Prop) : wTGet i w δ R = (dtC δ[i]? (fun _ => True) .mk ∧ w δ fun o δ1 => use o δ1 fun x => keyOf x (fun k => dtC δ1[i]? (fun kvs => onS (valD kvs k) (fun y => R (.d y) δ1) .mk) .mk) .mk) := rfl
omit [Tb] in
@[simp ↓] theorem wTGetC_ap (i : Nat) (w u : DE) (δ : DS) (R : Opd → DS → Prop) : wTGetC i w u δ R = (dtC δ[i]? (fun _ => True) .mk ∧ w δ fun o δ1 => u δ1 fun o2 δ2 => use o δ2 fun x => keyOf x (fun k => lk o2 δ2 fun y δ3 => dtC δ3[i]? (fun kvs => R (.d ((valD kvs k).getD y)) δ3) .mk) .mk) := rfl
omit [Tb] in
@[simp ↓] theorem mDict_ap (w : DA) (δ : DS) (R : Cell → DS → Prop) : mDict w δ R = (w δ fun os δ1 => useL os δ1 fun xs => one (fun x _ => dOf x (fun kvs => ∀ a, R (.od a kvs) δ1) .mk) xs (fun _ => True)) := rfl
end DL
set_option Elab.async false
set_option linter.all false
set_option maxRecDepth 100000
set_option maxHeartbeats 4000000
namespace DL
open PySem PySem.Spec PyProof.Rows L2
section
variable {prog : Program} {w : World} {A : Around} {E : Value → Shared → Prop} {s : Shared} {T : String} {r d : Addr} {n : Nat} {P : Nat → Value → Prop} {OK : Heap → Prop} {Q : Value → Shared → Prop}
end
variable [Tb]
def keysD (kvs : KVs) : List PyData := kvs.map fun p => .tuple (p.1.map PyData.int)
def pSortedT : PN := one fun x R => dT_of x (fun kvs => W.AllAlike (keysD kvs) ∧ W.Sortable (keysD kvs) ∧ kvs.length ≤ 1000000 ∧ (∀ p ∈ kvs, p.1 ≠ []) ∧ R (.list (sortD (keysD kvs)))) .mk
omit [Tb] in
@[simp ↓] theorem pSortedT_ap (x : PyData) (R : PyData → Prop) : pSortedT [x] R = dT_of x (fun kvs => W.AllAlike (keysD kvs) ∧ W.Sortable (keysD kvs) ∧ kvs.length ≤ 1000000 ∧ (∀ p ∈ kvs, p.1 ≠ []) ∧ R (.list (sortD (keysD kvs)))) .mk := rfl
section
variable {X : Cx}
end
end DL
set_option Elab.async false
set_option linter.all false
set_option maxRecDepth 100000
set_option maxHeartbeats 4000000
namespace DL
open PySem PySem.Spec PyProof.Rows L2
mutual
theorem reads_lt {h : Heap} : ∀ {v : Value} {d : PyData} {as : List Addr}, Reads h v d as → ∀ a ∈ as, a < h.objs.size
  | _, _, _, .none => fun _ h => nomatch h
  | _, _, _, .bool _ => fun _ h => nomatch h
  | _, _, _, .int _ _ => fun _ h => nomatch h
  | _, _, _, .str _ _ => fun _ h => nomatch h
  | _, _, _, .list h1 h2 h3 h4 => fun a ha => by
    rcases List.mem_cons.mp ha with rfl | ha
    · exact Heap.lt_size h1
    · exact readsAll_lt h4 a ha
  | _, _, _, .tuple h1 h2 h3 h4 => fun a ha => readsAll_lt h4 a ha
  | _, _, _, .dict h1 h2 h3 h4 h5 => fun a ha => by
    rcases List.mem_append.mp ha with ha | ha
    · rcases List.mem_cons.mp ha with rfl | ha
      · exact Heap.lt_size h1
      · exact readsAll_lt h4 a ha
    · exact readsAll_lt h5 a ha
theorem readsAll_lt {h : Heap} : ∀ {vs : List Value} {ds : List PyData} {as : List Addr}, ReadsAll h vs ds as → ∀ a ∈ as, a < h.objs.size
  | _, _, _, .nil => fun _ h => nomatch h
  | _, _, _, .cons h1 h2 => fun a ha => by
    rcases List.mem_append.mp ha with ha | ha
    · exact reads_lt h1 a ha
    · exact readsAll_lt h2 a ha
end
section
variable {prog : Program} {w : World} {A : Around} {E : Value → Shared → Prop} {s : Shared} {Q : Value → Shared → Prop}
end
variable [Tb]
def pSortedU : PN := one fun x R => match x with
  | .tuple ds => W.AllAlike ds ∧ W.Sortable ds ∧ ds.length ≤ 1000000 ∧ (∀ d ∈ ds, d.depth ≤ 50) ∧ R (.list (sortD ds))
  | _ => False
omit [Tb] in
@[simp ↓] theorem pSortedU_t (ds : List PyData) (R : PyData → Prop) : pSortedU [.tuple ds] R = (W.AllAlike ds ∧ W.Sortable ds ∧ ds.length ≤ 1000000 ∧ (∀ d ∈ ds, d.depth ≤ 50) ∧ R (.list (sortD ds))) := rfl
section
variable {X : Cx}
end
end DL
set_option Elab.async false
set_option linter.all false
set_option maxRecDepth 100000
set_option maxHeartbeats 4000000
namespace DL
open PySem PySem.Spec PyProof.Rows L2
variable [Tb]
def pSumT : PN := one fun x R => match x with
  | .tuple ds => onIs ds (fun ns => R (.int ns.sum)) .mk
  | _ => False
omit [Tb] in
@[simp ↓] theorem pSumT_t (ds : List PyData) (R : PyData → Prop) : pSumT [.tuple ds] R = onIs ds (fun ns => R (.int ns.sum)) .mk := rfl
section
variable {X : Cx}
end
end DL
set_option Elab.async false
set_option linter.all false
set_option maxRecDepth 100000
set_option maxHeartbeats 4000000
namespace DL
open PySem PySem.Spec PyProof.Rows L2
variable [Tb]
def wIsi2 (T U : String) (w : DE) : DE := fun δ R => w δ fun o δ1 => use o δ1 fun x => (tyName x ≠ "object" ∧ tyName x ≠ "dict") ∧ R (.d (.bool (isTy T x || isTy U x))) δ1
omit [Tb] in
@[simp ↓] theorem wIsi2_ap (T U : String) (w : DE) (δ : DS) (R : Opd → DS → Prop) : wIsi2 T U w δ R = (w δ fun o δ1 => use o δ1 fun x => (tyName x ≠ "object" ∧ tyName x ≠ "dict") ∧ R (.d (.bool (isTy T x || isTy U x))) δ1) := rfl
section
variable {X : Cx}
end
end DL
set_option Elab.async false
set_option linter.all false
set_option maxRecDepth 100000
set_option maxHeartbeats 4000000
namespace DL
open PySem PySem.Spec PyProof.Rows L2
variable [Tb]
omit [Tb] in
theorem RoomG.in1 {k : Nat} {A : Around} (r : RoomG (k + 1) A) : RoomG k A.in1 := ⟨r.rm.in1, r.gd⟩
section
variable {X : Cx} {CX : CXT} {k : Nat} {f C a : Addr} {fd : FuncData} {ps : List Str} {sp : Sp} {E : L2.St → XK} {pins : List (Addr × Obj)} {σ : L2.St} {H : Hp} {s : Shared} {Q : VK} {us : List Value} {vs : List V}
theorem run_at {A : Around} (F : FnG X.prog X.w X.K X.mg X.base CX k f fd ps sp) (hr : RoomG k A) (e0 : Env0 X.prog X.w X.K X.mg X.base A X.stack s H) (hb : Binds X.K fd ps []) (hx : PassesAt CX X σ (E σ)) (I : Inv X pins σ H s) (r : Vals vs us) (h : sp vs H Q (E σ)) :
    wpAny (model X.prog X.w) A (call (.ref f) us) (EP X pins σ Q) X.xe s := by
  have many : (us ++ []).length = ps.length := (List.append_nil us).symm ▸ r.length.symm.trans (F.len _ _ _ _ h)
  have bound : BindsTo s fd ⟨us, []⟩ (ps.zip us) := by have := hb s us I.kIn many; rwa [List.append_nil] at this
  refine wpAny_call (codeAny_mono (F.run A X.stack s H ⟨us, []⟩ us vs Q (E σ) hr e0 bound r h) ?_)
  rintro (err | _ | _ | _ | u) z back <;> first | exact hx pins H s err z I back | exact False.elim back | exact I.after back
theorem inst_of (I : Inv X pins σ H s) {dx : Addr} {fs : List (Str × V)} (e : H a = some (.ins C dx fs)) : ∃ od, PySem.W.InstAt s.heap a (PySem.W.instObj C dx) C (some od) := by
  obtain ⟨mA, O, _⟩ := ins_get I.hok e
  obtain ⟨od, J, _⟩ := O.look
  exact ⟨od, J⟩
theorem run_code {A : Around} (F : FnG X.prog X.w X.K X.mg X.base CX k f fd ps sp) (hr : RoomG k A) (e0 : Env0 X.prog X.w X.K X.mg X.base A X.stack s H) (hb : Binds X.K fd ps []) (hx : PassesAt CX X σ (E σ)) (I : Inv X pins σ H s) (r : Vals vs us) (h : sp vs H Q (E σ)) :
    codeAny (model X.prog X.w) A (.call (.ref f) ⟨us, []⟩) (fun r z => (∃ u, r = .ok (.ret u) ∧ EP X pins σ Q u z) ∨ ∃ e, r = .error e ∧ X.xe e z) s := by
  have many : (us ++ []).length = ps.length := (List.append_nil us).symm ▸ r.length.symm.trans (F.len _ _ _ _ h)
  have bound : BindsTo s fd ⟨us, []⟩ (ps.zip us) := by have := hb s us I.kIn many; rwa [List.append_nil] at this
  refine codeAny_mono (F.run A X.stack s H ⟨us, []⟩ us vs Q (E σ) hr e0 bound r h) ?_
  rintro (err | _ | _ | _ | u) z back <;> first | exact .inr ⟨_, rfl, hx pins H s err z I back⟩ | exact False.elim back | exact .inl ⟨_, rfl, I.after back⟩
end
def tSelfS (C : Addr) (sp : Sp) (E : L2.St → XK) (t : TA) : TE := fun σ H Q => t σ H fun ws H2 => ∃ a dx fs vs, ws = V.ref a :: vs ∧ H2 a = some (.ins C dx fs) ∧ sp ws H2 Q (E σ)
def tSelfR (C : Addr) (sp : Sp) (E : L2.St → XK) (ok : V → Prop) (t : TA) : TE := fun σ H Q => t σ H fun ws H2 => ∃ a dx fs vs, ws = V.ref a :: vs ∧ H2 a = some (.ins C dx fs) ∧ sp ws H2 (fun v H3 => ok v ∧ Q v H3) (E σ)
section
variable {X : Cx} {CX : CXT} {k : Nat} {f C p : Addr} {n : Str} {fd : FuncData} {ps : List Str} {sp : Sp} {E : L2.St → XK} {e e2 : Expr} {es : List Expr} {ta tb : TE} {t : TA} {pos apos : Pos}
theorem pe_propS (he : PE X e ta) (c : Cls X.K C) (hp : PropOf X.K C n p f) (F : FnG X.prog X.w X.K X.mg X.base CX k f fd ps sp) (hr : RoomG (k + 1) X.A) (hb : Binds X.K fd ps []) (hx : ∀ σ, PassesAt CX X.nox σ (E σ))
    (hab : attributeBase e n X.env (eval e X.env) = eval e X.env := by rfl) : PE X (.Attribute e n pos) (tSelfS C sp E (tCons ta tNil)) := ⟨fun pins s σ H Q I h => by
  refine attr_of hab (thn (he.run pins s σ H _ I h) fun u s1 ⟨x, H1, I1, rx, a, dx, fs, vs, ex, ea, q⟩ => ?_)
  cases ex
  obtain rfl : u = Value.ref a := rx
  obtain ⟨od, J⟩ := inst_of I1 ea
  obtain ⟨rest, hrec⟩ := hp.rec_
  have I2 := I1.tok (s1.toks + 1)
  have cd : (PySem.W.clsIn X.K C).isSome = true := by
    obtain ⟨_, hc, _⟩ := PySem.W.any_some c.hd
    rw [hc]; rfl
  have run := run_code (X := X.nox) F hr.in1 I2.env0.in1 hb (hx σ) (I2.wish _) (.cons (show L2.RelV (V.ref a) (Value.ref a) from rfl) .nil) q
  refine PySem.W.get_bind I1.kIn J (PySem.W.plainGet_of (c.get n)).1 (PySem.W.findObj_data cd hp.at_ hp.get hp.tak) (PySem.W.plainGet_of (c.get n)).2 (wpAny_call (PySem.W.prop_get (s := { s1 with toks := s1.toks + 1 }) I2.kIn hrec (codeAny_mono run fun r z w => ?_)))
  rcases w with ⟨u, rfl, v, H', I3, rv, q3⟩ | ⟨er, rfl, w⟩
  · show wpAny _ _ (handedOut u) _ _ _
    rw [PySem.W.handedOut_of (handed_of rv)]
    exact wpAny_pure ⟨v, H', I3.wish _, rv, q3⟩
  · exact w.elim⟩
abbrev strOkV (v : V) : Prop := ∃ m : Str, v = .str m
theorem pe_strS {x : Str} {px : Pos} (hg : Gl X x) (hm : X.mg x = none) (hv : bootBuiltins x = some (.type "str")) (ha : PA X (e :: es) t) (hp : Meth X.K C "__str__" f) (F : FnG X.prog X.w X.K X.mg X.base CX k f fd ps sp) (hr : RoomG (k + 2) X.A) (hb : Binds X.K fd ps []) (hx : ∀ σ, PassesAt CX X σ (E σ)) (h1 : ps.length = 1)
    (hn : x ≠ "__name__" := by decide) (hdb : (x == ("__debug__" : Str)) = false := by decide) (hs1 : starEach (e :: es) X.env = (false, eval e X.env) :: starEach es X.env := by rfl) (hpl : (backTo pos (starEach es X.env)).any (·.1) = false := by rfl) :
    PE X (.Call (.Name x px) (e :: es) [] pos) (tSelfR C sp E strOkV t) := ⟨fun pins s σ H Q I h => by
  refine wpAny_Call_Name_kw (ld_blt I hg hm hv ?_ hn hdb)
  refine PyProof.Rows.callWith_type1 (thn (ha.run pos pins s σ H _ I h) fun us s1 ⟨vs, H1, I1, r1, a, dx, fs, ws, ev, ea, q⟩ => ?_) hs1 hpl
  subst ev
  have l := F.len _ _ _ _ q
  cases ws with
  | cons y ys => rw [h1] at l; simp at l
  | nil =>
    obtain ⟨u, rfl, ru⟩ := vals1 r1
    obtain rfl : u = Value.ref a := ru
    obtain ⟨od, J⟩ := inst_of I1 ea
    have hr1 : RoomG (k + 1) X.A.in1 := RoomG.in1 (k := k + 1) hr
    have hr2 := hr1.in1
    refine PySem.W.kso_call (by have := hr2.rm.un; omega) I1.kIn J hp.at_ hp.fn (wpAny_mono (run_at F hr2 I1.env0.in1.in1 hb (hx σ) I1 r1 q) (fun u z ⟨v, H', I2, rv, ⟨m, e1⟩, q2⟩ => ?_) fun _ _ z => z)
    subst e1
    obtain ⟨t, rfl⟩ := rv
    exact ⟨.str m, H', I2, ⟨_, rfl⟩, q2⟩⟩
end
def obIs (o : Opd) (δ : DS) (n : Str) : Prop := match o with
  | .d x => ∃ fs, x = obD n fs
  | .s i => ∃ a fs, δ[i]? = some (.ob a n fs)
theorem obIs_ok {K : PySem.W.Frag} {B G H : Hp} {δ : DS} {σ : L2.St} {v : V} {o : Opd} {n : Str} (R : Rel K B G δ σ H) (ok : OpdOk K G σ v o) (h : obIs o δ n) : ∃ a C dx ws, v = .ref a ∧ H a = some (.ins C dx ws) ∧ ObjK K n C := by
  cases o with
  | d x =>
    obtain ⟨fs, rfl⟩ := h
    obtain ⟨a, C, dx, ws, rfl, hG, k, _⟩ := dn_ob ok
    exact ⟨a, C, dx, ws, rfl, R.sg _ _ hG, k⟩
  | s i =>
    have ok : σ[i]? = some (some v) := ok
    obtain ⟨a, fs, h⟩ := h
    obtain ⟨o', hσ, rfl, C, dx, ws, ha, k, fo⟩ := R.at h
    rw [ok] at hσ; cases hσ
    exact ⟨a, C, dx, ws, rfl, ha, k⟩
def wSelf (m : List Bool) (n : Str) (sp : DSp) (ok : PyData → Prop) (wa : DA) : DE := fun δ R => wa δ fun os δ2 => obIs (os.headD (.d .none)) δ2 n ∧ lkM m os δ2 fun os' δ3 => (slotsOf os').Nodup ∧ ask sp (os'.map (cellOf δ3)) (fun x cs => ok x ∧ R (.d x) (putBack os' cs δ3)) .mk
def wSelfX (m : List Bool) (n : Str) (sp : DSp) (wa : DA) : DEX := fun δ R Z => wa δ fun os δ2 => obIs (os.headD (.d .none)) δ2 n ∧ lkM m os δ2 fun os' δ3 => (slotsOf os').Nodup ∧ ask sp (os'.map (cellOf δ3)) (fun x cs => onX x (fun x => R (.d x) (putBack os' cs δ3)) (fun n fs => Z (excD n fs) (putBack os' cs δ3)) .mk) .mk
omit [Tb] in
@[simp ↓] theorem wSelf_ap (m : List Bool) (n : Str) (sp : DSp) (ok : PyData → Prop) (wa : DA) (δ : DS) (R : Opd → DS → Prop) : wSelf m n sp ok wa δ R = (wa δ fun os δ2 => obIs (os.headD (.d .none)) δ2 n ∧ lkM m os δ2 fun os' δ3 => (slotsOf os').Nodup ∧ ask sp (os'.map (cellOf δ3)) (fun x cs => ok x ∧ R (.d x) (putBack os' cs δ3)) .mk) := rfl
omit [Tb] in
@[simp ↓] theorem wSelfX_ap (m : List Bool) (n : Str) (sp : DSp) (wa : DA) (δ : DS) (R : Opd → DS → Prop) (Z : PyData → DS → Prop) : wSelfX m n sp wa δ R Z = (wa δ fun os δ2 => obIs (os.headD (.d .none)) δ2 n ∧ lkM m os δ2 fun os' δ3 => (slotsOf os').Nodup ∧ ask sp (os'.map (cellOf δ3)) (fun x cs => onX x (fun x => R (.d x) (putBack os' cs δ3)) (fun n fs => Z (excD n fs) (putBack os' cs δ3)) .mk) .mk) := rfl
section
variable {X : Cx} {TL : XNames} {C : Addr} {n : Str} {sp : DSp} {ok : PyData → Prop} {okv : V → Prop} {wa : DA} {m : List Bool} {σ : L2.St} {H B G : Hp} {Q : VK} {δ : DS} {R : Opd → DS → Prop} {Z : PyData → DS → Prop}
theorem self_of (hC : PySem.W.nsIn X.K mainGlobals n = some (some (.ref C))) (vk : ∀ K G v x, Dn K G v x → ok x → okv v) (rel : Rel X.K B G δ σ H) (hw : wSelf m n sp ok wa δ R) (kk : ∀ v H' G' o δ', R o δ' → Same G G' → Rel X.K B G' δ' σ H' → OpdOk X.K G' σ v o → Q v H') :
    tSelfR C (liftSp X.K sp) (fun _ => E0) okv (upA X.K wa) σ H Q := ⟨B, G, δ, _, rel, hw, fun vs H1 G1 os δ1 ⟨r0, r1⟩ s1 rel1 ok1 => by
  cases ok1 with
  | nil => obtain ⟨fs, e⟩ := r0; cases e
  | cons h t =>
    obtain ⟨a, C', dx, ws, rfl, hH, k'⟩ := obIs_ok rel1 h r0
    obtain rfl := k'.uniq hC
    obtain ⟨G4, δ4, os', ⟨nd, q⟩, s4, rel4, ok4⟩ := lkM_ok rel1 (OpdsOk.cons h t) r1
    exact ⟨a, dx, ws, _, rfl, hH, _, G4, _, _, call_rel rel4 ok4 nd, q, fun v H' G' z cs ⟨o, r⟩ s5 rel5 dn => ⟨vk _ _ _ _ dn o, kk v H' G' _ _ r (s1.trans (s4.trans s5)) (call_back rel4 ok4 nd s5 rel5) dn⟩⟩⟩
end
end DL
set_option Elab.async false
set_option linter.all false
set_option maxRecDepth 100000
set_option maxHeartbeats 4000000
namespace DL
open PySem PySem.Spec PyProof.Rows L2 StX
variable [Tb]
omit [Tb] in
theorem passAt0 {X : Cx} (σ : L2.St) : PassesAt CX0 X σ E0 := fun pins H s e s' I c => pass0 pins σ H s e s' I c
section
variable {X : Cx} {TL : XNames} {C : Addr} {n : Str} {sp : DSp} {ok : PyData → Prop} {wa : DA} {m : List Bool} {σ : L2.St} {H B G : Hp} {Q : VK} {δ : DS} {R : Opd → DS → Prop}
end
def anyD (_ : PyData) : Prop := True
def lenD (x : PyData) : Prop := ∃ m : Int, x = .int m ∧ 0 ≤ m ∧ m < 2 ^ 63
def strD (x : PyData) : Prop := ∃ s, x = .str s
def boolD (x : PyData) : Prop := ∃ s, x = .bool s
omit [Tb] in
@[simp] theorem anyD_ (x : PyData) : anyD x = True := rfl
omit [Tb] in
@[simp] theorem lenD_ (i : Int) : lenD (.int i) = (0 ≤ i ∧ i < 2 ^ 63) := propext ⟨fun ⟨m, e, h⟩ => by cases e; exact h, fun h => ⟨i, rfl, h⟩⟩
omit [Tb] in
@[simp] theorem strD_ (i : Str) : strD (.str i) = True := eq_true ⟨i, rfl⟩
omit [Tb] in
@[simp] theorem boolD_ (i : Bool) : boolD (.bool i) = True := eq_true ⟨i, rfl⟩
section
variable {X : Cx} {TL : XNames} {k : Nat} {f C p : Addr} {fd : FuncData} {ps : List Str} {sp : DSp} {o e : Expr} {es : List Expr} {w u : DE} {wa : DA} {n mn x : Str} {apos pos px : Pos} {m : List Bool}
theorem je_strO (hC : PySem.W.nsIn X.K mainGlobals n = some (some (.ref C))) (hp : Meth X.K C "__str__" f) (F : FnG X.prog X.w X.K X.mg X.base CX0 k f fd ps (liftSp X.K sp)) (hr : RoomG (k + 2) X.A) (hb : Binds X.K fd ps []) (h1 : ps.length = 1) (hg : Gl X x) (hm : X.mg x = none) (hv : bootBuiltins x = some (.type "str")) (ha : JA X (e :: es) wa)
    (hn : x ≠ "__name__" := by decide) (hdb : (x == ("__debug__" : Str)) = false := by decide) (hs1 : starEach (e :: es) X.env = (false, eval e X.env) :: starEach es X.env := by rfl) (hpl : (backTo pos (starEach es X.env)).any (·.1) = false := by rfl) :
    JE X (.Call (.Name x px) (e :: es) [] pos) (wSelf m n sp strD wa) :=
  pe_le (pe_strS (E := fun _ => E0) hg hm hv ha hp F hr hb passAt0 h1 hn hdb hs1 hpl) fun pins s σ H Q I ⟨B, G, δ, R, rel, hw, kk⟩ => self_of hC (fun K G v x d ⟨m, e⟩ => ⟨m, dn_str (e ▸ d)⟩) rel hw kk
def wCallO (m : List Bool) (n : Str) (sp : DSp) (w : DE) (wa : DA) : DEX := fun δ R Z => w δ fun o δ1 => obIs o δ1 n ∧ wSelfX m n sp (fun δ' K => wa δ' fun os δ2 => K (o :: os) δ2) δ1 R Z
omit [Tb] in
@[simp ↓] theorem wCallO_ap (m : List Bool) (n : Str) (sp : DSp) (w : DE) (wa : DA) (δ : DS) (R : Opd → DS → Prop) (Z : PyData → DS → Prop) : wCallO m n sp w wa δ R Z = (w δ fun o δ1 => obIs o δ1 n ∧ wSelfX m n sp (fun δ' K => wa δ' fun os δ2 => K (o :: os) δ2) δ1 R Z) := rfl
def wMethX (m : List Bool) (n mn : Str) (sp : DSp) (w : DE) (wa : DA) : DEX := fun δ R Z => w δ fun o δ1 => obHead o δ1 n mn ∧ wa δ1 fun os δ2 => lkM m (o :: os) δ2 fun os' δ3 => (slotsOf os').Nodup ∧ ask sp (os'.map (cellOf δ3)) (fun x cs => onX x (fun x => R (.d x) (putBack os' cs δ3)) (fun n fs => Z (excD n fs) (putBack os' cs δ3)) .mk) .mk
omit [Tb] in
@[simp ↓] theorem wMethX_ap (m : List Bool) (n mn : Str) (sp : DSp) (w : DE) (wa : DA) (δ : DS) (R : Opd → DS → Prop) (Z : PyData → DS → Prop) : wMethX m n mn sp w wa δ R Z = (w δ fun o δ1 => obHead o δ1 n mn ∧ wa δ1 fun os δ2 => lkM m (o :: os) δ2 fun os' δ3 => (slotsOf os').Nodup ∧ ask sp (os'.map (cellOf δ3)) (fun x cs => onX x (fun x => R (.d x) (putBack os' cs δ3)) (fun n fs => Z (excD n fs) (putBack os' cs δ3)) .mk) .mk) := rfl
end
def wInO (m : List Bool) (n : Str) (sp : DSp) (u w : DE) : DE := fun δ R => u δ fun i δ1 => w δ1 fun o δ2 => obIs o δ2 n ∧ lkM m [o, i] δ2 fun os' δ3 => (slotsOf os').Nodup ∧ ask sp (os'.map (cellOf δ3)) (fun x cs => boolD x ∧ R (.d x) (putBack os' cs δ3)) .mk
omit [Tb] in
@[simp ↓] theorem wInO_ap (m : List Bool) (n : Str) (sp : DSp) (u w : DE) (δ : DS) (R : Opd → DS → Prop) : wInO m n sp u w δ R = (u δ fun i δ1 => w δ1 fun o δ2 => obIs o δ2 n ∧ lkM m [o, i] δ2 fun os' δ3 => (slotsOf os').Nodup ∧ ask sp (os'.map (cellOf δ3)) (fun x cs => boolD x ∧ R (.d x) (putBack os' cs δ3)) .mk) := rfl
section
variable {X : Cx} {k : Nat} {f C : Addr} {fd : FuncData} {ps : List Str} {sp : DSp} {o e : Expr} {w u : DE} {n : Str} {pos : Pos} {m : List Bool}
end
end DL
set_option Elab.async false
set_option linter.all false
set_option maxRecDepth 100000
set_option maxHeartbeats 4000000
namespace DL
open PySem PySem.Spec PyProof.Rows L2 StX
variable [Tb]
section
variable {X : Cx} {CX : CXT} {k : Nat} {f C : Addr} {fd : FuncData} {ps : List Str} {sp : Sp} {E : L2.St → XK} {e : Expr} {es : List Expr} {t : TA} {x : Str} {pos p : Pos}
def tMakeS (C : Addr) (sp : Sp) (E : L2.St → XK) (t : TA) : TE := fun σ H Q => t σ H fun vs H1 => ∀ a dx, H1 a = none → H1 dx = none → dx ≠ a → sp (V.ref a :: vs) (upd (upd H1 dx (.own a)) a (.ins C dx [])) (fun v H2 => v = .non ∧ Q (.ref a) H2) (E σ)
theorem run_makeGS {pins : List (Addr × Obj)} {σ : L2.St} {H : Hp} {s : Shared} {Q : VK} {us : List Value} {vs : List V} (M : Mk X.K C f) (F : FnG X.prog X.w X.K X.mg X.base CX k f fd ps sp) (hr : RoomG (k + 1) X.A) (hb : Binds X.K fd ps []) (hx : PassesAt CX X σ (E σ)) (I : Inv X pins σ H s) (r : Vals vs us)
    (h : ∀ a dx, H a = none → H dx = none → dx ≠ a → sp (V.ref a :: vs) (upd (upd H dx (.own a)) a (.ins C dx [])) (fun v H2 => v = .non ∧ Q (.ref a) H2) (E σ)) : wpAny (model X.prog X.w) X.A (call (.ref C) us) (EP X pins σ Q) X.xe s := by
  have made := Inv.made (C := C) I
  have q := h (s.heap.objs.size + 1) s.heap.objs.size (I.hok.fresh (Nat.le_succ _)) (I.hok.fresh (Nat.le_refl _)) (Nat.ne_of_lt (Nat.lt_succ_self _))
  have vals : Vals (V.ref (s.heap.objs.size + 1) :: vs) (Value.ref (s.heap.objs.size + 1) :: us) := .cons rfl r
  have many : (Value.ref (s.heap.objs.size + 1) :: us ++ []).length = ps.length := (List.append_nil (Value.ref (s.heap.objs.size + 1) :: us)).symm ▸ vals.length.symm.trans (F.len _ _ _ _ q)
  have bound := hb _ (Value.ref (s.heap.objs.size + 1) :: us) made.kIn many
  rw [List.append_nil] at bound
  refine wpAny_call (make_map (f := f) I.kIn M.makes M.init (beq_iff_eq.mp M.fn) (codeAny_mono (F.run _ X.stack _ _ ⟨_, []⟩ _ _ _ (E σ) (hr.make C us []) (made.env0.make C us []) bound vals q) ?_))
  rintro (err | _ | _ | _ | u) z back <;> first | exact hx pins _ _ err z made back | exact False.elim back | skip
  obtain ⟨v, H', I3, rv, rfl, q3⟩ := made.after back
  exact ⟨rv, .ref (s.heap.objs.size + 1), H', I3, rfl, q3⟩
end
def wMakeX (n : Str) (sp : DSp) (w : DA) : DEX := fun δ R Z => w δ fun os δ1 => lkL os δ1 fun xs δ2 => ∀ a : Addr, ask sp (.ob a n [] :: xs.map Cell.d) (fun y cs => madeC cs n (fun fs => onX y (fun y => y = .none ∧ R (.d (obD n fs)) δ2) (fun n' fs' => Z (excD n' fs') δ2) .mk) .mk) .mk
omit [Tb] in
@[simp ↓] theorem wMakeX_ap (n : Str) (sp : DSp) (w : DA) (δ : DS) (R : Opd → DS → Prop) (Z : PyData → DS → Prop) : wMakeX n sp w δ R Z = (w δ fun os δ1 => lkL os δ1 fun xs δ2 => ∀ a : Addr, ask sp (.ob a n [] :: xs.map Cell.d) (fun y cs => madeC cs n (fun fs => onX y (fun y => y = .none ∧ R (.d (obD n fs)) δ2) (fun n' fs' => Z (excD n' fs') δ2) .mk) .mk) .mk) := rfl
section
variable {X : Cx} {TL : XNames} {k : Nat} {f C : Addr} {fd : FuncData} {ps : List Str} {sp : DSp} {e : Expr} {es : List Expr} {wa : DA} {n x : Str} {pos p : Pos}
end
end DL
set_option Elab.async false
set_option linter.all false
set_option maxRecDepth 100000
set_option maxHeartbeats 4000000
namespace DL
open PySem PySem.Spec PyProof.Rows L2
variable [Tb]
def fmtC (x : PyData) (k : Str → Prop) (_u : Stop k) : Prop := (∃ y : Str, x = .str y ∧ y.length ≤ sizeLine ∧ k y) ∨ ∃ i : Int, x = .int i ∧ i.natAbs.log2 < 1920 ∧ k (toString i : String)
omit [Tb] in
@[simp ↓] theorem fmtC_str (y : Str) (k : Str → Prop) (u : Stop k) : fmtC (.str y) k u = (y.length ≤ sizeLine ∧ k y) := propext (Iff.intro (fun h => by
  rcases h with ⟨z, e, h⟩ | ⟨i, e, _⟩
  · cases e; exact h
  · cases e) fun h => .inl ⟨y, rfl, h⟩)
omit [Tb] in
@[simp ↓] theorem fmtC_int (i : Int) (k : Str → Prop) (u : Stop k) : fmtC (.int i) k u = (i.natAbs.log2 < 1920 ∧ k (toString i : String)) := propext (Iff.intro (fun h => by
  rcases h with ⟨z, e, h⟩ | ⟨j, e, h⟩
  · cases e
  · cases e; exact h) fun h => .inr ⟨i, rfl, h⟩)
def wFmt (w : DE) : DE := fun δ R => w δ fun o δ1 => use o δ1 fun x => fmtC x (fun y => R (.d (.str y)) δ1) .mk
omit [Tb] in
@[simp ↓] theorem wFmt_ap (w : DE) (δ : DS) (R : Opd → DS → Prop) : wFmt w δ R = (w δ fun o δ1 => use o δ1 fun x => fmtC x (fun y => R (.d (.str y)) δ1) .mk) := rfl
def jsD : List DE → Str → DS → (Str → DS → Prop) → Prop
  | [], acc, δ, R => R acc δ
  | w :: ws, acc, δ, R => w δ fun o δ1 => use o δ1 fun x => strC x (fun y => (acc ++ y).length ≤ sizeLine ∧ jsD ws (acc ++ y) δ1 R) .mk
where strC (x : PyData) (k : Str → Prop) (_u : Stop k) : Prop := ∃ y, x = .str y ∧ k y
omit [Tb] in
@[simp ↓] theorem jsC_str (y : Str) (k : Str → Prop) (u : Stop k) : jsD.strC (.str y) k u = k y := propext ⟨fun ⟨z, e, h⟩ => by cases e; exact h, fun h => ⟨y, rfl, h⟩⟩
omit [Tb] in
@[simp ↓] theorem jsD_nil (acc : Str) (δ : DS) (R : Str → DS → Prop) : jsD [] acc δ R = R acc δ := rfl
omit [Tb] in
@[simp ↓] theorem jsD_cons (w : DE) (ws : List DE) (acc : Str) (δ : DS) (R : Str → DS → Prop) : jsD (w :: ws) acc δ R = (w δ fun o δ1 => use o δ1 fun x => jsD.strC x (fun y => (acc ++ y).length ≤ sizeLine ∧ jsD ws (acc ++ y) δ1 R) .mk) := rfl
def wJoinF (ws : List DE) : DE := fun δ R => jsD ws Str.empty δ fun y δ1 => R (.d (.str y)) δ1
omit [Tb] in
@[simp ↓] theorem wJoinF_ap (ws : List DE) (δ : DS) (R : Opd → DS → Prop) : wJoinF ws δ R = jsD ws Str.empty δ fun y δ1 => R (.d (.str y)) δ1 := rfl
inductive JJ (X : Cx) : List Expr → List DE → Prop
  | nil : JJ X [] []
  | cons {e : Expr} {w : DE} {es : List Expr} {ws : List DE} (h : JE X e w) (r : JJ X es ws) : JJ X (e :: es) (w :: ws)
section
variable {X : Cx} {e : Expr} {w : DE} {pos : Pos}
theorem je_fmt (he : JE X e w) : JE X (.FormattedValue e (-1) none pos) (wFmt w) := pe_le (pe_fmt he) fun pins s σ H Q I ⟨B, G, δ, R, rel, hw, kk⟩ => ⟨B, G, δ, _, rel, hw, fun v H1 G1 o δ1 r1 s1 rel1 ok1 => by
  obtain ⟨x, q, bx⟩ := use_ok rel1 ok1 r1
  rcases q with ⟨y, rfl, l, q⟩ | ⟨i, rfl, l, q⟩
  · exact .inl ⟨y, bor_str bx, l, kk _ H1 G1 _ δ1 q s1 rel1 (Dn.str y)⟩
  · exact .inr ⟨i, bor_int bx, l, kk _ H1 G1 _ δ1 q s1 rel1 (Dn.str _)⟩⟩
theorem je_joined1 (he : JE X e w) : JE X (.JoinedStr [e] pos) w := pe_joined1 he
end
end DL
set_option Elab.async false
set_option linter.all false
set_option maxRecDepth 100000
set_option maxHeartbeats 4000000
namespace DL
open PySem PySem.Spec PyProof.Rows L2 StX
variable [Tb]
def wConO (i : Nat) (n f : Str) (x : PyData) : DE := fun δ R => ownC δ[i]? n (fun _ fs => fs.lookup f = none ∧ R (.d x) δ) .mk
omit [Tb] in
@[simp ↓] theorem wConO_ap (i : Nat) (n f : Str) (x : PyData) (δ : DS) (R : Opd → DS → Prop) : wConO i n f x δ R = ownC δ[i]? n (fun _ fs => fs.lookup f = none ∧ R (.d x) δ) .mk := rfl
section
variable {X : Cx} {e : Expr} {f n : Str} {pos : Pos} {C : Addr}
end
end DL
set_option Elab.async false
set_option linter.all false
set_option maxRecDepth 100000
set_option maxHeartbeats 4000000
namespace DL
open PySem PySem.Spec PyProof.Rows L2 StX
variable [Tb]
structure FnV (P : Program) (w : World) (K : PySem.W.Frag) (mg : Str → Option Value) (base : Heap) (CX : CXT) (k : Nat) (f : Addr) (sp : Sp) : Prop where
  run : ∀ (A : Around) (outer : List Env) (s : Shared) (H : Hp) (us : List Value) (vs : List V) (Q : VK) (E : XK), RoomG k A → Env0 P w K mg base A outer s H → Vals vs us → sp vs H Q E → codeAny (model P w) A (.call (.ref f) ⟨us, []⟩) (CR CX outer P w H s Q E) s
section
variable {P : Program} {w : World} {K : PySem.W.Frag} {mg : Str → Option Value} {base : Heap} {CX : CXT} {j k : Nat} {f : Addr} {fd : FuncData} {ps : List Str} {sp : Sp}
theorem FnV.mono (F : FnV P w K mg base CX j f sp) (h : j ≤ k) : FnV P w K mg base CX k f sp := ⟨fun A outer s H us vs Q E hr => F.run A outer s H us vs Q E (hr.mono h)⟩
theorem FnG.v (F : FnG P w K mg base CX k f fd ps sp) (hb : Binds K fd ps []) : FnV P w K mg base CX k f sp := ⟨fun A outer s H us vs Q E hr e0 r h => by
  have kin : K.In s.heap := e0.mod.kin.keeps fun b o e => (e0.bs b o e).1
  have many : (us ++ []).length = ps.length := (List.append_nil us).symm ▸ r.length.symm.trans (F.len _ _ _ _ h)
  have bound : BindsTo s fd ⟨us, []⟩ (ps.zip us) := by have := hb s us kin many; rwa [List.append_nil] at this
  exact F.run A outer s H ⟨us, []⟩ us vs Q E hr e0 bound r h⟩
end
section
variable {K : PySem.W.Frag} {B G H : Hp}
theorem Rel.snoc {cs : List Cell} {τ : L2.St} {v : V} {x : PyData} (R : Rel K B G cs τ H) (dn : Dn K G v x) : Rel K B G (cs ++ [.d x]) (τ ++ [some v]) H := by
  have get : ∀ {i : Nat} {c : Cell}, (cs ++ [Cell.d x])[i]? = some c → cs[i]? = some c ∨ (i = cs.length ∧ c = .d x) := fun {i c} e => by
    by_cases h : i < cs.length
    · rw [List.getElem?_append_left h] at e; exact .inl e
    · rw [List.getElem?_append_right (by omega)] at e
      obtain ⟨h1, h2⟩ := List.getElem?_eq_some_iff.mp e
      have : i = cs.length := by simp at h1; omega
      subst this
      simp at h2
      exact .inr ⟨rfl, h2.symm⟩
  have L := R.len
  refine ⟨by rw [List.length_append, List.length_append, L]; rfl, R.sg, R.sb, R.dj, fun i c o e1 e2 => ?_, fun i j c c' a e1 e2 m1 m2 => ?_, fun i c a e m => ?_, R.tt⟩
  · rcases get e1 with q | ⟨rfl, rfl⟩
    · have hi := (List.getElem?_eq_some_iff.mp q).1
      rw [List.getElem?_append_left (by omega)] at e2
      exact R.ok i c o q e2
    · rw [← L, List.getElem?_append_right (Nat.le_refl _)] at e2
      simp at e2
      exact ⟨v, e2.symm, dn⟩
  · rcases get e1 with q1 | ⟨_, rfl⟩
    · rcases get e2 with q2 | ⟨_, rfl⟩
      · exact R.ap i j c c' a q1 q2 m1 m2
      · cases m2
    · cases m1
  · rcases get e with q | ⟨_, rfl⟩
    · exact R.fr i c a q m
    · cases m
end
section
variable {P : Program} {w : World} {K : PySem.W.Frag} {mg : Str → Option Value} {base : Heap}
end
section
variable {X : Cx} {CX : CXT} {k : Nat} {f C a : Addr} {sp : Sp} {E : L2.St → XK} {pins : List (Addr × Obj)} {σ : L2.St} {H : Hp} {s : Shared} {Q : VK} {us : List Value} {vs : List V}
end
section
variable {X : Cx} {CX : CXT} {k : Nat} {f C : Addr} {sp : Sp} {E : L2.St → XK} {e : Expr} {es : List Expr} {ta : TE} {t : TA} {pos apos : Pos}
end
end DL
set_option Elab.async false
set_option linter.all false
set_option maxRecDepth 100000
set_option maxHeartbeats 4000000
namespace DL
open PySem PySem.Spec PyProof.Rows L2 StX
variable [Tb]
section
variable {X : Cx} {TL : XNames} {k : Nat} {f C : Addr} {sp : DSp} {o e : Expr} {es : List Expr} {w : DE} {wa r : DA} {n mn : Str} {apos pos p : Pos} {m : List Bool}
def wStar (w : DE) (r : DA) : DA := fun δ R => w δ fun o δ1 => use o δ1 fun x => ∃ xs, x = .tuple xs ∧ r δ1 fun os δ2 => R (xs.map Opd.d ++ os) δ2
def nmC (c : Option Cell) (k : Str → Prop) (_u : Stop k) : Prop := ∃ a x, c = some (.gx (.nm a x)) ∧ k x
omit [Tb] in
@[simp ↓] theorem nmC_of (a : Addr) (x : Str) (k : Str → Prop) (u : Stop k) : nmC (some (.gx (.nm a x))) k u = k x := propext ⟨fun ⟨_, _, e, h⟩ => by cases e; exact h, fun h => ⟨a, x, rfl, h⟩⟩
def altC (l : List (Str × DSp)) (x : Str) (k : DSp → Prop) (_u : Stop k) : Prop := ∃ sp, l.lookup x = some sp ∧ k sp
def wCallV (j : Nat) (l : List (Str × DSp)) (w : DA) : DEX := fun δ R Z => nmC δ[j]? (fun x => altC l x (fun sp => w δ fun os δ1 => lkL os δ1 fun xs δ2 => ask sp (xs.map Cell.d) (fun y _ => onX y (fun y => R (.d y) δ2) (fun n fs => Z (excD n fs) δ2) .mk) .mk) .mk) .mk
omit [Tb] in
@[simp ↓] theorem wCallV_ap (j : Nat) (l : List (Str × DSp)) (w : DA) (δ : DS) (R : Opd → DS → Prop) (Z : PyData → DS → Prop) : wCallV j l w δ R Z = nmC δ[j]? (fun x => altC l x (fun sp => w δ fun os δ1 => lkL os δ1 fun xs δ2 => ask sp (xs.map Cell.d) (fun y _ => onX y (fun y => R (.d y) δ2) (fun n fs => Z (excD n fs) δ2) .mk) .mk) .mk) .mk := rfl
omit [Tb] in
@[simp ↓] theorem wStar_ap (w : DE) (r : DA) (δ : DS) (R : List Opd → DS → Prop) : wStar w r δ R = (w δ fun o δ1 => use o δ1 fun x => ∃ xs, x = .tuple xs ∧ r δ1 fun os δ2 => R (xs.map Opd.d ++ os) δ2) := rfl
end
def Alts (X : Cx) (TL : XNames) (k : Nat) (l : List (Str × DSp)) : Prop := ∀ x sp, l.lookup x = some sp → ∃ f, PySem.W.nsIn X.K mainGlobals x = some (some (.ref f)) ∧ PySem.W.keepIn X.K (.ref f) = true ∧ FnV X.prog X.w X.K X.mg X.base (L2N.CX X.prog X.w) k f (liftSpX X.K TL sp)
theorem Alts.nil {X : Cx} {TL : XNames} {k : Nat} : Alts X TL k [] := fun x sp e => nomatch e
theorem Alts.cons {X : Cx} {TL : XNames} {k : Nat} {l : List (Str × DSp)} {x : Str} {sp : DSp} {f : Addr} (g : PySem.W.nsIn X.K mainGlobals x = some (some (.ref f))) (kp : PySem.W.keepIn X.K (.ref f) = true) (F : FnV X.prog X.w X.K X.mg X.base (L2N.CX X.prog X.w) k f (liftSpX X.K TL sp)) (r : Alts X TL k l) : Alts X TL k ((x, sp) :: l) := fun y sp' e => by
  rw [List.lookup_cons] at e
  cases h : y == x with
  | true =>
    rw [h] at e
    cases e
    rw [eq_of_beq h]
    exact ⟨f, g, kp, F⟩
  | false =>
    rw [h] at e
    exact r y sp' e
section
variable {X : Cx} {TL : XNames} {k j : Nat} {x : Str} {e : Expr} {es : List Expr} {wa : DA} {p pos : Pos} {l : List (Str × DSp)}
end
end DL
set_option Elab.async false
set_option linter.all false
set_option maxRecDepth 100000
set_option maxHeartbeats 4000000
namespace DL
open PySem PySem.Spec PyProof.Rows L2 StX
variable [Tb]
def dedC (x : PyData) (l : List (Str × Str)) (k : Str → Prop) (_u : Stop k) : Prop := ∃ s y, x = .str s ∧ l.lookup s = some y ∧ k y
def wDeed (i : Nat) (l : List (Str × Str)) (w : DE) : DTS := fun E δ => w δ fun o δ1 => use o δ1 fun x => dedC x l (fun y => ∀ a : Addr, E.nx (δ1.set i (.gx (.nm a y)))) .mk
omit [Tb] in
@[simp ↓] theorem wDeed_ap (i : Nat) (l : List (Str × Str)) (w : DE) (E : DEnds) (δ : DS) : wDeed i l w E δ = (w δ fun o δ1 => use o δ1 fun x => dedC x l (fun y => ∀ a : Addr, E.nx (δ1.set i (.gx (.nm a y)))) .mk) := rfl
section
variable {X : Cx} {e : Expr} {w : DE} {pos ps pd : Pos} {d x : Str} {i : Nat} {D : Addr} {l : List (Str × Str)}
end
section
variable {X : Cx} {CX : CXT} {k : Nat} {f C : Addr} {fd : FuncData} {ps : List Str} {sp : Sp} {E : L2.St → XK} {e : Expr} {es : List Expr} {ta : TE} {t : TA} {pos : Pos}
end
section
variable {X : Cx} {k : Nat} {f C : Addr} {fd : FuncData} {ps : List Str} {sp : DSp} {e : Expr} {es : List Expr} {wa : DA} {n x : Str} {pos px : Pos} {m : List Bool}
end
end DL
set_option Elab.async false
set_option linter.all false
set_option maxRecDepth 100000
set_option maxHeartbeats 4000000
namespace DL
open PySem PySem.Spec PyProof.Rows L2
end DL
set_option Elab.async false
set_option linter.all false
set_option maxRecDepth 100000
set_option maxHeartbeats 4000000
namespace DL
open PySem PySem.Spec PyProof.Rows L2
abbrev cmF (K : PySem.W.Frag) (C m : Str) : Addr := He5.wf K (He.ga K C) "classmethod" m
def aCm (C m : Str) : Ask := fun K => PySem.W.readsIn K (He.ga K C) (.type "type") && (He5.wrapB K (He.ga K C) "classmethod" "classmethod.__get__" m && PySem.W.fnIn K (cmF K C m))
theorem aCm_ok {K : PySem.W.Frag} {C m : Str} (c : aCm C m K = true) : ClX.CRead K (He.ga K C) (.type "type") ∧ ClX.CMet K (He.ga K C) (.type "type") m (He.ma K (He.ga K C) m) (cmF K C m) := by
  obtain ⟨h1, c⟩ := He.ba c
  obtain ⟨h2, h3⟩ := He.ba c
  refine ⟨⟨h1, ?_⟩, He5.cmet_of h2 h3⟩
  have h := h1
  unfold PySem.W.readsIn at h
  obtain ⟨h, _⟩ := He.ba h
  obtain ⟨h, _⟩ := He.ba h
  obtain ⟨h, h3⟩ := He.ba h
  obtain ⟨_, h2⟩ := He.ba h
  unfold PySem.W.specialIn
  rw [beq_iff_eq.mp h2, Option.bind_some]
  exact beq_iff_eq.mp h3
end DL
set_option Elab.async false
set_option linter.all false
set_option maxRecDepth 100000
set_option maxHeartbeats 4000000
namespace K76
open PySem PySem.Spec PyProof.Rows L2 DL
def topS (i : Nat) : Stmt := PySem.Challenge.pw_twobricks_k76_bricks_read.main.body.getD i (.Pass ⟨0, 0, 0, 0⟩)
abbrev s_sides_text : Stmt := topS 39
abbrev s_kinds_text : Stmt := topS 40
abbrev s_is_integer : Stmt := topS 13
abbrev s_sides_error : Stmt := topS 14
abbrev s_kinds_error : Stmt := topS 15
abbrev s_pair_error : Stmt := topS 16
abbrev s_rests : Stmt := topS 27
abbrev s_atoms : Stmt := topS 36
abbrev s_Bricks_init : Stmt := clsT (topS 46) 1
abbrev s_number_at : Stmt := topS 41
abbrev s_sides_at : Stmt := topS 42
abbrev s_require_text : Stmt := topS 43
abbrev s_parse_kinds : Stmt := topS 44
abbrev s_Bricks_read : Stmt := clsT (topS 46) 5
abbrev s_Bricks___str__ : Stmt := clsT (topS 46) 14
abbrev s_Ldeck : Stmt := topS 48
abbrev s_Ldraw : Stmt := topS 49
abbrev s_Lone : Stmt := topS 50
abbrev s_Lodd : Stmt := topS 51
abbrev s_Lfar : Stmt := topS 52
abbrev s_Lwide : Stmt := topS 53
abbrev s_Bricks_pair : Stmt := clsT (topS 46) 2
abbrev s_Lread : Stmt := topS 54
abbrev s_Ldue : Stmt := topS 55
abbrev s_law : Stmt := topS 56
abbrev sx_BadKinds : Stmt := clsT (topS 6) 0
abbrev sx_BadText : Stmt := clsT (topS 8) 0
def loose0 : List Str := ["MAX_DIMS", "MAX_SIDE", "MAX_KINDS", "__name__", "BrickError", "BadBox", "BadKinds", "BadSide", "BadText", "NoKind", "TooLarge", "UnlikeAxes", "is_integer", "sides_error", "kinds_error", "pair_error", "box_error", "common", "inverse", "least_times", "CUT", "SIDES", "STEP", "GAP", "rests", "bar_along", "crossing", "paper", "is_filled", "escape"]
def loose1 : List Str := ["within", "within_pairs", "atoms", "FIGURES", "sides_text", "kinds_text", "number_at", "sides_at", "require_text", "parse_kinds", "Bricks", "_law_deck", "_law_draw", "_law_one", "_law_odd", "_law_far", "_law_wide", "_law_read", "_law_due"]
def loose : List Str := loose0 ++ (loose1)
def tabs : List He.Defn := []
def defs0_0 : List DefF := [
  ⟨fun K => He.ga K "sides_text", "sides_text", "sides_text", s_sides_text, []⟩,
  ⟨fun K => He.ga K "kinds_text", "kinds_text", "kinds_text", s_kinds_text, []⟩,
  ⟨fun K => He.ga K "is_integer", "is_integer", "is_integer", s_is_integer, []⟩,
  ⟨fun K => He.ga K "sides_error", "sides_error", "sides_error", s_sides_error, []⟩,
  ⟨fun K => He.ga K "kinds_error", "kinds_error", "kinds_error", s_kinds_error, []⟩,
  ⟨fun K => He.ga K "pair_error", "pair_error", "pair_error", s_pair_error, []⟩,
  ⟨fun K => He.ga K "rests", "rests", "rests", s_rests, []⟩,
  ⟨fun K => He.ga K "atoms", "atoms", "atoms", s_atoms, []⟩,
  ⟨fun K => He.ma K (He.ga K "Bricks") "__init__", "__init__", "Bricks.__init__", s_Bricks_init, []⟩,
  ⟨fun K => He.ga K "number_at", "number_at", "number_at", s_number_at, []⟩,
  ⟨fun K => He.ga K "sides_at", "sides_at", "sides_at", s_sides_at, []⟩,
  ⟨fun K => He.ga K "require_text", "require_text", "require_text", s_require_text, []⟩,
  ⟨fun K => He.ga K "parse_kinds", "parse_kinds", "parse_kinds", s_parse_kinds, []⟩,
  ⟨fun K => cmF K "Bricks" "read", "read", "Bricks.read", s_Bricks_read, []⟩,
  ⟨fun K => He.ma K (He.ga K "Bricks") "__str__", "__str__", "Bricks.__str__", s_Bricks___str__, []⟩,
  ⟨fun K => He.ga K "_law_deck", "_law_deck", "_law_deck", s_Ldeck, []⟩,
  ⟨fun K => He.ga K "_law_draw", "_law_draw", "_law_draw", s_Ldraw, []⟩,
  ⟨fun K => He.ga K "_law_one", "_law_one", "_law_one", s_Lone, []⟩,
  ⟨fun K => He.ga K "_law_odd", "_law_odd", "_law_odd", s_Lodd, []⟩,
  ⟨fun K => He.ga K "_law_far", "_law_far", "_law_far", s_Lfar, []⟩,
  ⟨fun K => He.ga K "_law_wide", "_law_wide", "_law_wide", s_Lwide, []⟩,
  ⟨fun K => prF K "Bricks" "pair", "pair", "Bricks.pair", s_Bricks_pair, []⟩,
  ⟨fun K => He.ga K "_law_read", "_law_read", "_law_read", s_Lread, []⟩,
  ⟨fun K => He.ga K "_law_due", "_law_due", "_law_due", s_Ldue, []⟩,
  ⟨fun K => He.ga K "law", "law", "law", s_law, []⟩,
  ⟨fun K => He.ma K (He.ga K "BadKinds") "__init__", "__init__", "BadKinds.__init__", sx_BadKinds, ["__class__"]⟩,
  ⟨fun K => He.ma K (He.ga K "BadText") "__init__", "__init__", "BadText.__init__", sx_BadText, ["__class__"]⟩]
def defs0 : List DefF := defs0_0
def defs : List DefF := defs0
def asks0_0 : List Ask := [
  aG "law",
  aG "Bricks",
  aOb "Bricks",
  aMk "Bricks",
  aN "Bricks" "both",
  aN "Bricks" "parts",
  aG "sides_text",
  aG "kinds_text",
  aG "is_integer",
  aG "sides_error",
  aG "kinds_error",
  aG "pair_error",
  aG "rests",
  aG "atoms",
  aM "Bricks" "__init__",
  aG "number_at",
  aG "sides_at",
  aG "require_text",
  aG "parse_kinds",
  aCm "Bricks" "read",
  aM "Bricks" "__str__",
  aG "_law_deck",
  aG "_law_draw",
  aG "_law_one",
  aG "_law_odd",
  aG "_law_far",
  aG "_law_wide",
  aPr "Bricks" "pair",
  aG "_law_read",
  aG "_law_due",
  aZ "str",
  aZ "isinstance",
  aZ "bool",
  aZ "int",
  aZ "enumerate",
  aZ "len",
  aZ "tuple",
  aZ "sorted",
  aZ "abs",
  aZ "range"]
def asks0_1 : List Ask := [
  aZ "repr",
  aI "MAX_SIDE" 1000000000000,
  aI "MAX_DIMS" 4,
  aI "MAX_KINDS" 4,
  aS "FIGURES" "0123456789",
  aG "BadKinds",
  aCF "BadKinds",
  aG "BadText",
  aCF "BadText",
  aX "BadKinds" ["error"] "/claim/cut.py",
  aX "BadText" ["place"] "/claim/cut.py",
  aExm "BadKinds" "BadText" false,
  aExm "BadText" "BadText" true,
  aExm "BadKinds" "BadKinds" true,
  aExm "BadText" "BadKinds" false,
  aN "BadKinds" "place",
  aN "BadText" "place",
  aN "BadKinds" "error",
  aN "BadText" "error"]
def asks0 : List Ask := asks0_0 ++ (asks0_1)
def asks : List Ask := asks0
set_option maxHeartbeats 0 in
theorem run_a (w : World) : RunA (W.OpenLaw.row PySem.Challenge.rw_twobricks_k76_bricks_read) 1500 30000 w tabs := by
  intro os
  kernel_rfl
set_option maxHeartbeats 0 in
theorem run_b (w : World) (os : OsState) : (endS (W.OpenLaw.row PySem.Challenge.rw_twobricks_k76_bricks_read) 30000 w os).map (fun s => HandSHeadRun.seenQ (W.view (W.OpenLaw.row PySem.Challenge.rw_twobricks_k76_bricks_read).prog [56]) loose (importedModules (W.OpenLaw.row PySem.Challenge.rw_twobricks_k76_bricks_read).prog.main.body) (fun s => W.xlAt (W.view (W.OpenLaw.row PySem.Challenge.rw_twobricks_k76_bricks_read).prog [56]) [] s && W.recOk (W.OpenLaw.row PySem.Challenge.rw_twobricks_k76_bricks_read).toRowW.records s) s.abs) = some (W.openGood (W.view (W.OpenLaw.row PySem.Challenge.rw_twobricks_k76_bricks_read).prog [56]) loose) := by
  kernel_rfl
set_option maxHeartbeats 0 in
theorem run_c0 (w : World) : RunC (W.OpenLaw.row PySem.Challenge.rw_twobricks_k76_bricks_read) 1500 30000 w asks0 := by
  intro os
  kernel_rfl
set_option maxHeartbeats 0 in
theorem run_d0 (w : World) : RunD (W.OpenLaw.row PySem.Challenge.rw_twobricks_k76_bricks_read) 1500 30000 w defs0 := by
  intro os
  kernel_rfl
theorem run (w : World) : HandSHeadRun.RunEq (W.OpenLaw.row PySem.Challenge.rw_twobricks_k76_bricks_read) (W.view (W.OpenLaw.row PySem.Challenge.rw_twobricks_k76_bricks_read).prog [56]) (DL.hookF 1500 defs asks tabs) (fun s => DL.obsF 1500 defs asks tabs (HandSHeadRun.getT s)) 30000 loose w := run_all (run_a w) (run_b w) (run_c0 w) (run_d0 w)
end K76
set_option Elab.async false
set_option linter.all false
set_option maxRecDepth 100000
set_option maxHeartbeats 400000
namespace DL
open PySem PySem.Spec PyProof.Rows L2 StX
variable [Tb]
def aliC (c d : Option Cell) (j i : Nat) (k : Prop) (_u : Stop k) : Prop := (∃ a n fs, c = some (.ob a n fs) ∧ (j = i ∨ ∃ x, d = some (.gx (.nm a x)))) ∧ k
omit [Tb] in
@[simp ↓] theorem aliC_self (d : Option Cell) (i : Nat) (a : Addr) (n : Str) (fs : List (Str × PyData)) (k : Prop) (u : Stop k) : aliC (some (.ob a n fs)) d i i k u = k := propext ⟨fun h => h.2, fun q => ⟨⟨a, n, fs, rfl, .inl rfl⟩, q⟩⟩
omit [Tb] in
@[simp ↓] theorem aliC_of (i j : Nat) (a : Addr) (n x : Str) (fs : List (Str × PyData)) (k : Prop) (u : Stop k) : aliC (some (.ob a n fs)) (some (.gx (.nm a x))) j i k u = k := propext ⟨fun h => h.2, fun q => ⟨⟨a, n, fs, rfl, .inr ⟨x, rfl⟩⟩, q⟩⟩
def wAli (j i : Nat) : DE := fun δ R => aliC δ[i]? δ[j]? j i (R (.s i) δ) .mk
omit [Tb] in
@[simp ↓] theorem wAli_ap (j i : Nat) (δ : DS) (R : Opd → DS → Prop) : wAli j i δ R = aliC δ[i]? δ[j]? j i (R (.s i) δ) .mk := rfl
section
variable {X : Cx} {x : Str} {pos : Pos} {i j : Nat}
end
section
variable {P : Program} {w : World} {K : PySem.W.Frag} {mg : Str → Option Value} {base : Heap}
end
section
variable {X : Cx} {pins : List (Addr × Obj)} {σ : L2.St} {H : Hp} {s : Shared} {i : Nat} {x : Str} {v : V}
end
def wIAddO (j i : Nat) (n : Str) (sp : DSp) (w : DE) : DTS := fun E δ => aliC δ[i]? δ[j]? j i (w δ fun o δ1 => lk o δ1 fun x δ2 => aliC δ2[i]? δ2[j]? j i (obIs (.s i) δ2 n ∧ ask sp [cellOf δ2 (.s i), .d x] (fun y cs => onX y (fun y => y = .none ∧ E.nx (putBack [.s i, .d x] cs δ2)) (fun n' fs' => E.rt (excD n' fs') (putBack [.s i, .d x] cs δ2)) .mk) .mk) .mk) .mk
def wSetO (j i : Nat) (n : Str) (sp : DSp) (w u : DE) : DTS := fun E δ => aliC δ[i]? δ[j]? j i (w δ fun o δ1 => u δ1 fun o2 δ2 => lk o δ2 fun x δ3 => lk o2 δ3 fun y δ4 => aliC δ4[i]? δ4[j]? j i (obIs (.s i) δ4 n ∧ ask sp [cellOf δ4 (.s i), .d y, .d x] (fun z cs => onX z (fun _ => E.nx (putBack [.s i, .d y, .d x] cs δ4)) (fun n' fs' => E.rt (excD n' fs') (putBack [.s i, .d y, .d x] cs δ4)) .mk) .mk) .mk) .mk
omit [Tb] in
@[simp ↓] theorem wIAddO_ap (j i : Nat) (n : Str) (sp : DSp) (w : DE) (E : DEnds) (δ : DS) : wIAddO j i n sp w E δ = aliC δ[i]? δ[j]? j i (w δ fun o δ1 => lk o δ1 fun x δ2 => aliC δ2[i]? δ2[j]? j i (obIs (.s i) δ2 n ∧ ask sp [cellOf δ2 (.s i), .d x] (fun y cs => onX y (fun y => y = .none ∧ E.nx (putBack [.s i, .d x] cs δ2)) (fun n' fs' => E.rt (excD n' fs') (putBack [.s i, .d x] cs δ2)) .mk) .mk) .mk) .mk := rfl
omit [Tb] in
@[simp ↓] theorem wSetO_ap (j i : Nat) (n : Str) (sp : DSp) (w u : DE) (E : DEnds) (δ : DS) : wSetO j i n sp w u E δ = aliC δ[i]? δ[j]? j i (w δ fun o δ1 => u δ1 fun o2 δ2 => lk o δ2 fun x δ3 => lk o2 δ3 fun y δ4 => aliC δ4[i]? δ4[j]? j i (obIs (.s i) δ4 n ∧ ask sp [cellOf δ4 (.s i), .d y, .d x] (fun z cs => onX z (fun _ => E.nx (putBack [.s i, .d y, .d x] cs δ4)) (fun n' fs' => E.rt (excD n' fs') (putBack [.s i, .d y, .d x] cs δ4)) .mk) .mk) .mk) .mk := rfl
section
variable {X : Cx} {TL : XNames} {k i j : Nat} {f C : Addr} {fd : FuncData} {ps : List Str} {sp : DSp} {e e2 : Expr} {w u : DE} {n x : Str} {pos pos' py : Pos}
end
end DL
set_option Elab.async false
set_option linter.all false
set_option maxRecDepth 100000
set_option maxHeartbeats 400000
namespace DL
open PySem PySem.Spec PyProof.Rows L2 StX
variable [Tb]
def outOb (cs : List Cell) (a : Addr) (n : Str) (k : List (Str × PyData) → Prop) (_u : Stop k) : Prop := ∃ fs r, cs = .ob a n fs :: r ∧ k fs
omit [Tb] in
@[simp ↓] theorem outOb_cons (a : Addr) (n : Str) (fs : List (Str × PyData)) (r : List Cell) (k : List (Str × PyData) → Prop) (u : Stop k) : outOb (.ob a n fs :: r) a n k u = k fs := propext ⟨fun ⟨_, _, e, h⟩ => by cases e; exact h, fun h => ⟨fs, r, rfl, h⟩⟩
abbrev DMX := DS → (Cell → DS → Prop) → (PyData → DS → Prop) → Prop
def mNX (w : DMX) : DM := fun δ R => w δ R fun _ _ => False
def mMakeX (n : Str) (sp : DSp) (w : DA) : DMX := fun δ R Z => w δ fun os δ1 => lkL os δ1 fun xs δ2 => ∀ a : Addr, ask sp (.ob a n [] :: xs.map Cell.d) (fun y cs => outOb cs a n (fun fs => onX y (fun y => y = .none ∧ R (.ob a n fs) δ2) (fun n' fs' => Z (excD n' fs') δ2) .mk) .mk) .mk
def wSetMX (i : Nat) (w : DMX) : DTS := fun E δ => w δ (fun c δ1 => E.nx (δ1.set i c)) E.rt
def mIf (t : DT) (a b : DM) : DM := fun δ R => t δ fun k δ1 => if k = true then a δ1 R else b δ1 R
omit [Tb] in
@[simp ↓] theorem mNX_ap (w : DMX) (δ : DS) (R : Cell → DS → Prop) : mNX w δ R = w δ R (fun _ _ => False) := rfl
omit [Tb] in
@[simp ↓] theorem mMakeX_ap (n : Str) (sp : DSp) (w : DA) (δ : DS) (R : Cell → DS → Prop) (Z : PyData → DS → Prop) : mMakeX n sp w δ R Z = (w δ fun os δ1 => lkL os δ1 fun xs δ2 => ∀ a : Addr, ask sp (.ob a n [] :: xs.map Cell.d) (fun y cs => outOb cs a n (fun fs => onX y (fun y => y = .none ∧ R (.ob a n fs) δ2) (fun n' fs' => Z (excD n' fs') δ2) .mk) .mk) .mk) := rfl
omit [Tb] in
@[simp ↓] theorem wSetMX_ap (i : Nat) (w : DMX) (E : DEnds) (δ : DS) : wSetMX i w E δ = w δ (fun c δ1 => E.nx (δ1.set i c)) E.rt := rfl
omit [Tb] in
@[simp ↓] theorem mIf_ap (t : DT) (a b : DM) (δ : DS) (R : Cell → DS → Prop) : mIf t a b δ R = (t δ fun k δ1 => if k = true then a δ1 R else b δ1 R) := rfl
section
variable {X : Cx} {TL : XNames} {k : Nat} {f C : Addr} {fd : FuncData} {ps : List Str} {sp : DSp} {e c a b : Expr} {es : List Expr} {wa : DA} {n x : Str} {pos p : Pos}
end
end DL
set_option Elab.async false
set_option linter.all false
set_option maxRecDepth 100000
set_option maxHeartbeats 4000000
namespace DL
open PySem PySem.Spec PyProof.Rows L2
variable [Tb]
def pMax3 : PN := fun ds R => match ds with
  | [.int x, .int y, .int z] => R (.int (max (max x y) z))
  | _ => False
omit [Tb] in
@[simp ↓] theorem pMax3_i (x y z : Int) (R : PyData → Prop) : pMax3 [.int x, .int y, .int z] R = R (.int (max (max x y) z)) := rfl
section
variable {X : Cx}
end
def lenSC (ds : List PyData) (k : Int → Prop) (_u : Stop k) : Prop := ∃ ns : List Int, ds = ns.map PyData.int ∧ ns.length ≤ 1000 ∧ ∀ L : List Int, L.Nodup → (∀ j, j ∈ L ↔ j ∈ ns) → k L.length
def wLenSet (w : DE) : DE := fun δ R => w δ fun o δ1 => use o δ1 fun x => ∃ ds, x = .tuple ds ∧ lenSC ds (fun n => R (.d (.int n)) δ1) .mk
omit [Tb] in
@[simp ↓] theorem wLenSet_ap (w : DE) (δ : DS) (R : Opd → DS → Prop) : wLenSet w δ R = (w δ fun o δ1 => use o δ1 fun x => ∃ ds, x = .tuple ds ∧ lenSC ds (fun n => R (.d (.int n)) δ1) .mk) := rfl
section
variable {X : Cx} {e : Expr} {w : DE}
end
omit [Tb] in
@[simp ↓] theorem varC_ob (a : Addr) (n : Str) (fs : List (Str × PyData)) (i : Nat) (k : Opd → Prop) (u : Stop k) : varC (some (.ob a n fs)) i k u = k (.s i) := rfl
@[simp ↓] theorem obIs_0 (a : Addr) (n : Str) (fs : List (Str × PyData)) (r : DS) : obIs (.s 0) (.ob a n fs :: r) n = True := eq_true ⟨a, fs, rfl⟩
end DL
set_option Elab.async false
set_option linter.all false
set_option maxRecDepth 100000
set_option maxHeartbeats 4000000
namespace DL
open PySem PySem.Spec PyProof.Rows L2
variable [Tb]
def asTx (x : PyData) (k : Str → Prop) (_u : Stop k) : Prop := ∃ s, x = .str s ∧ k s
omit [Tb] in
@[simp ↓] theorem asTx_s (s : Str) (k : Str → Prop) (u : Stop k) : asTx (.str s) k u = k s := propext ⟨fun ⟨t, e, h⟩ => by cases e; exact h, fun h => ⟨s, rfl, h⟩⟩
def wTexts : List (Str × DE) → DS → (List (Str × PyData) → DS → Prop) → Prop
  | [], δ, k => k [] δ
  | (s, w) :: r, δ, k => w δ fun o δ1 => lk o δ1 fun x δ2 => wTexts r δ2 fun kvs δ3 => k ((s, x) :: kvs) δ3
omit [Tb] in
@[simp ↓] theorem wTexts_nil (δ : DS) (k : List (Str × PyData) → DS → Prop) : wTexts [] δ k = k [] δ := rfl
omit [Tb] in
@[simp ↓] theorem wTexts_cons (s : Str) (w : DE) (r : List (Str × DE)) (δ : DS) (k : List (Str × PyData) → DS → Prop) : wTexts ((s, w) :: r) δ k = (w δ fun o δ1 => lk o δ1 fun x δ2 => wTexts r δ2 fun kvs δ3 => k ((s, x) :: kvs) δ3) := rfl
def lkS : List (Str × PyData) → Option PyData → Str → Option PyData
  | [], r, _ => r
  | p :: t, r, s => lkS t (if s = p.1 then some p.2 else r) s
def wTabGet (i : Nat) (ps : List (Str × DE)) (wk wd : DE) : DTS := fun E δ => wTexts ps δ fun kvs δ1 => ∀ a, wk (δ1.set i (.gx (.nm a ""))) fun o δ2 => wd δ2 fun o2 δ3 => use o δ3 fun x => asTx x (fun s => lk o2 δ3 fun y δ4 => E.rt ((lkS kvs none s).getD y) δ4) .mk
omit [Tb] in
@[simp ↓] theorem wTabGet_ap (i : Nat) (ps : List (Str × DE)) (wk wd : DE) (E : DEnds) (δ : DS) : wTabGet i ps wk wd E δ = (wTexts ps δ fun kvs δ1 => ∀ a, wk (δ1.set i (.gx (.nm a ""))) fun o δ2 => wd δ2 fun o2 δ3 => use o δ3 fun x => asTx x (fun s => lk o2 δ3 fun y δ4 => E.rt ((lkS kvs none s).getD y) δ4) .mk) := rfl
section
variable {X : Cx} {pins : List (Addr × Obj)}
variable {e f : Expr} {pos pos' dpos px apos cpos rpos : Pos} {x : Str} {i : Nat} {keys : List (Option Expr)} {values : List Expr}
end
end DL
set_option Elab.async false
set_option linter.all false
set_option maxRecDepth 100000
set_option maxHeartbeats 4000000
namespace DL
open PySem PySem.Spec PyProof.Rows L2
variable [Tb]
section
variable {P : Program} {w : World} {K : PySem.W.Frag} {mg : Str → Option Value} {base : Heap}
end
def wPairC (j i : Nat) (m : List Bool) (sp : DSp) (wa : DA) : DTS := fun E δ => wa δ fun os δ1 => lkM m os δ1 fun os' δ2 => os'.head? = some (.s i) ∧ (slotsOf os').Nodup ∧ ask sp (os'.map (cellOf δ2)) (fun x cs => onX x (fun x => E.nx ((putBack os' cs δ2).set j (.d x))) (fun n fs => E.rt (excD n fs) (putBack os' cs δ2)) .mk) .mk
omit [Tb] in
@[simp ↓] theorem wPairC_ap (j i : Nat) (m : List Bool) (sp : DSp) (wa : DA) (E : DEnds) (δ : DS) : wPairC j i m sp wa E δ = (wa δ fun os δ1 => lkM m os δ1 fun os' δ2 => os'.head? = some (.s i) ∧ (slotsOf os').Nodup ∧ ask sp (os'.map (cellOf δ2)) (fun x cs => onX x (fun x => E.nx ((putBack os' cs δ2).set j (.d x))) (fun n fs => E.rt (excD n fs) (putBack os' cs δ2)) .mk) .mk) := rfl
section
variable {X : Cx} {TL : XNames} {k i j : Nat} {f : Addr} {fd : FuncData} {ps : List Str} {sp : DSp} {e : Expr} {es : List Expr} {wa : DA} {x y g : Str} {pos px py tp gp cp : Pos} {kk : Nat} {m : List Bool}
end
end DL
set_option Elab.async false
set_option linter.all false
set_option maxRecDepth 100000
set_option maxHeartbeats 4000000
namespace DL
open PySem PySem.Spec PyProof.Rows L2 GenW
section
variable {X : Cx}
end
end DL
set_option Elab.async false
set_option linter.all false
set_option maxRecDepth 100000
set_option maxHeartbeats 4000000
namespace DL
open PySem PySem.Spec PyProof.Rows L2
variable [Tb]
structure FnH (P : Program) (w : World) (K : PySem.W.Frag) (mg : Str → Option Value) (base : Heap) (CX : CXT) (k : Nat) (f : Addr) (fd : FuncData) (ps : List Str) (sp : Sp) : Prop where
  len (vs : List V) (H : Hp) (Q : VK) (E : XK) (_ : sp vs H Q E) : vs.length = ps.length
  run : ∀ (A : Around) (outer : List Env) (s : Shared) (H : Hp) (args : Args) (us : List Value) (vs : List V) (Q : VK) (E : XK), Room k A → Env0 P w K mg base A outer s H →
    BindsTo s fd args (ps.zip us) → Vals vs us → sp vs H Q E → codeAny (model P w) A (.call (.ref f) args) (CR CX outer P w H s Q E) s
omit [Tb] in
theorem _root_.L2.Room.u64 {k : Nat} {A : Around} (r : Room k A) : A.units + 64 < cLine := r.units
omit [Tb] in
theorem _root_.L2.Room.u65 {k : Nat} {A : Around} (r : Room k A) : A.units + 65 < cLine := by have := r.un; omega
section
variable {P : Program} {w : World} {K : PySem.W.Frag} {mg : Str → Option Value} {base : Heap} {CX : CXT}
omit [Tb] in
theorem FnH.mono {j k : Nat} {f : Addr} {fd : FuncData} {ps : List Str} {sp : Sp} (F : FnH P w K mg base CX j f fd ps sp) (h : j ≤ k) : FnH P w K mg base CX k f fd ps sp :=
  ⟨F.len, fun A outer s H args us vs Q E hr => F.run A outer s H args us vs Q E (hr.mono h)⟩
end
section
variable {X : Cx} {CX : CXT} {k : Nat} {f : Addr} {fd : FuncData} {ps : List Str} {x : Str} {p pos : Pos} {e : Expr} {es : List Expr}
end
abbrev DSpG := List Cell → (List PyData → Prop) → Prop
section
variable {X : Cx} {tg iter e : Expr} {wi : DL} {g : DTG} {w : DE} {ts : List Nat} {yp ep pos : Pos}
end
section
variable {P : Program} {w : World} {K : PySem.W.Frag} {mg : Str → Option Value} {base : Heap}
end
def wListG (i : Nat) (n mn : Str) (sp : DSpG) : DE := fun δ R => obHead (.s i) δ n mn ∧ sp [cellOf δ (.s i)] fun xs => R (.d (.list xs)) (putBack [.s i] [cellOf δ (.s i)] δ)
omit [Tb] in
@[simp ↓] theorem wListG_ap (i : Nat) (n mn : Str) (sp : DSpG) (δ : DS) (R : Opd → DS → Prop) : wListG i n mn sp δ R = (obHead (.s i) δ n mn ∧ sp [cellOf δ (.s i)] fun xs => R (.d (.list xs)) (putBack [.s i] [cellOf δ (.s i)] δ)) := rfl
section
variable {X : Cx} {k : Nat} {f C : Addr} {fd : FuncData} {ps : List Str} {n mn x : Str} {p apos cpos pos px : Pos} {i : Nat} {sp : DSpG}
end
end DL
set_option Elab.async false
set_option linter.all false
set_option maxRecDepth 100000
set_option maxHeartbeats 4000000
namespace DL
open PySem PySem.Spec PyProof.Rows L2
variable [Tb]
section
variable {X : Cx} {TL : XNames} {CX : CXT} {k : Nat} {f C : Addr} {fd : FuncData} {ps ks : List Str} {sp : DSp} {n mn : Str} {o : Expr} {w wa : DE} {wk : DA} {kws : List Keyword} {apos pos : Pos} {m : List Bool}
end
end DL
set_option Elab.async false
set_option linter.all false
set_option maxRecDepth 100000
set_option maxHeartbeats 4000000
namespace DL
open PySem PySem.Spec PyProof.Rows L2 StX
variable [Tb]
section
variable {K : PySem.W.Frag} {B G H : Hp}
theorem Rel.consGx {t : GX} {cs : List Cell} {τ : L2.St} {o : Option V} (R : Rel K B G cs τ H) (hf : t.fp = []) (k : CellOk K G H (.gx t) o) : Rel K B G (.gx t :: cs) (o :: τ) H := by
  refine ⟨by simp [R.len], R.sg, R.sb, R.dj, fun i c w e1 e2 => ?_, fun i j c c' b e1 e2 m1 m2 => ?_, fun i c b e m => ?_, R.tt⟩
  · cases i with
    | zero => cases e1; cases e2; exact k
    | succ i => exact R.ok i c w e1 e2
  · cases i with
    | zero =>
      cases e1
      have m1 : b ∈ t.fp := m1
      rw [hf] at m1; cases m1
    | succ i =>
      cases j with
      | zero =>
        cases e2
        have m2 : b ∈ t.fp := m2
        rw [hf] at m2; cases m2
      | succ j => exact congrArg _ (R.ap i j c c' b e1 e2 m1 m2)
  · cases i with
    | zero =>
      cases e
      have m : b ∈ t.fp := m
      rw [hf] at m; cases m
    | succ i => exact R.fr i c b e m
theorem Rel.drop1 {c : Cell} {cs : List Cell} {τ : L2.St} {o : Option V} (R : Rel K B G (c :: cs) (o :: τ) H) : Rel K B G cs τ H :=
  ⟨by have := R.len; simpa using this, R.sg, R.sb, R.dj, fun i c w e1 e2 => R.ok (i + 1) c w e1 e2, fun i j c c' b e1 e2 m1 m2 => Nat.succ.inj (R.ap (i + 1) (j + 1) c c' b e1 e2 m1 m2), fun i c b e m => R.fr (i + 1) c b e m, R.tt⟩
end
def tCMethS (C : Addr) (sp : Sp) (E : L2.St → XK) (ta : TE) (t : TA) : TE := fun σ H Q => ta σ H fun x H1 => x = .ref C ∧ t σ H1 fun vs H2 => sp (.ref C :: vs) H2 Q (E σ)
section
variable {X : Cx} {CX : CXT} {k : Nat} {C p g q f : Addr} {mc : Value} {sp : Sp} {E : L2.St → XK} {o e : Expr} {es : List Expr} {m x : Str} {pos apos : Pos} {ta : TE} {t : TA} {pl : Sem Bool} {fd : FuncData} {ps : List Str} {j : Nat}
  {pins : List (Addr × Obj)} {σ : L2.St} {H : Hp} {s : Shared}
theorem run_cmG {Q : VK} {us : List Value} {vs : List V} (F : FnG X.prog X.w X.K X.mg X.base CX k g fd ps sp) (hr : RoomG k X.A) (hb : Binds X.K fd ps []) (hx : PassesAt CX X σ (E σ)) (I : Inv X ((q, PySem.W.methodObj (.ref g) (.ref C)) :: pins) σ H s)
    (r : Vals vs us) (h : sp (.ref C :: vs) H Q (E σ)) : wpAny (model X.prog X.w) X.A (call (.ref q) us) (EP X pins σ Q) X.xe s := by
  have many : ((Value.ref C :: us) ++ []).length = ps.length := by
    have := F.len _ _ _ _ h
    rw [List.append_nil, ← this, List.length_cons, List.length_cons, r.length]
  have bound : BindsTo s fd ⟨.ref C :: us, []⟩ (ps.zip (.ref C :: us)) := by have := hb s (.ref C :: us) I.kIn many; rwa [List.append_nil] at this
  have z : wpAny (model X.prog X.w) X.A (call (.ref q) us) (EP X ((q, PySem.W.methodObj (.ref g) (.ref C)) :: pins) σ Q) X.xe s := by
    refine wpAny_call (PySem.W.method_call (ClX.pin_at I) (codeAny_mono (F.run X.A X.stack s H ⟨.ref C :: us, []⟩ (.ref C :: us) (.ref C :: vs) Q (E σ) hr I.env0 bound (.cons rfl r) h) ?_))
    rintro (err | _ | _ | _ | u) z back <;> first | exact hx _ H s err z I back | exact False.elim back | exact I.after back
  exact thn z fun _ _ y => ClX.unpinE y
theorem pe_cmethGS (he : PE X o ta) (r : ClX.CRead X.K C mc) (c : ClX.CMet X.K C mc m p g) (F : FnG X.prog X.w X.K X.mg X.base CX k g fd ps sp) (hr : RoomG k X.A) (hb : Binds X.K fd ps []) (hx : ∀ σ, PassesAt CX X σ (E σ)) (ha : PA X (e :: es) t)
    (hst : starEach (e :: es) X.env = (false, eval e X.env) :: starEach es X.env := by rfl) (hpl : (backTo pos (starEach es X.env)).any (·.1) = false := by rfl)
    (ht : eval (.Call (.Attribute o m apos) (e :: es) [] pos) X.env = (do
      let ov ← eval o X.env
      standAt apos.atName
      let (f, first) ← holding [ov] (getMethod ov m pl)
      callWith pos f first (backTo pos (starEach (e :: es) X.env)) (backToKw pos (keywordEach [] X.env))) := by rfl) :
    PE X (.Call (.Attribute o m apos) (e :: es) [] pos) (tCMethS C sp E ta t) := by
  refine ⟨fun pins s σ H Q I h => ?_⟩
  refine PySem.W.methodCall_KW (pl := pl) (thn (he.run pins s σ H _ I h) fun u s1 ⟨x, H1, I1, rx, ex, q⟩ => ?_) ht
  subst ex
  obtain rfl : u = Value.ref C := rx
  refine ClX.getmethcm_ok I1 r c fun s2 I2 => ?_
  refine ClX.callwith_cm I2 (ClX.base_none I1 (Nat.le_refl _)) c.fi (thn (ha.run pos _ s2 σ H1 _ I2 q) fun us s3 ⟨vs, H2, I3, rv, q2⟩ => ⟨⟨ClX.pin_at I3, I3.kIn⟩, ?_⟩) hst hpl
  exact run_cmG F hr hb (hx σ) I3 rv q2
theorem pe_makeLS (M : Mk X.K C f) (F : FnG X.prog X.w X.K X.mg X.base CX k f fd ps sp) (hr : RoomG (k + 1) X.A) (hb : Binds X.K fd ps []) (hN : X.N[j]? = some x) (hv : Vis X.env.scope x) (hx : ∀ σ, PassesAt CX X σ (E σ)) (ha : PA X (e :: es) t) (hdb : (x == ("__debug__" : Str)) = false := by decide) (hcd : (x == ("__classdict__" : Str)) = false := by decide)
    (he : starEach (e :: es) X.env = (false, eval e X.env) :: starEach es X.env := by rfl) (hpl : (backTo pos (starEach es X.env)).any (·.1) = false := by rfl) : PE X (.Call (.Name x apos) (e :: es) [] pos) (fun σ H Q => σ[j]? = some (some (.ref C)) ∧ tMakeS C sp E t σ H Q) :=
  ⟨fun pins s σ H Q I ⟨hσ, h⟩ => by
    refine wpAny_Call_Name_kw (thn ((pe_var (pos := apos) hN hv hdb hcd).run pins s σ H (fun v H1 => v = .ref C ∧ H1 = H) I ⟨.ref C, hσ, rfl, rfl⟩) fun u s1 ⟨v, H1, I1, r1, q1⟩ => ?_)
    obtain ⟨rfl, rfl⟩ := q1
    cases r1
    exact PySem.W.callWith_K (h₀ := X.base) I1.ok.mod.kin M.kp (wpAny_mono (ha.run pos pins s1 σ _ _ I1 h)
      (fun us z ⟨vs, H1, I1, r, q⟩ => ⟨I1.kIn, run_makeGS M F hr hb (hx σ) I1 r q⟩) fun _ _ z => z) he hpl⟩
end
def wCMeth (n : Str) (sp : DSp) (wa : DA) : DEX := fun δ R Z => wa δ fun os δ1 => lkL os δ1 fun xs δ2 => ∀ a : Addr, ask sp (.gx (.nm a n) :: xs.map Cell.d) (fun y _ => onX y (fun y => R (.d y) δ2) (fun n' fs' => Z (excD n' fs') δ2) .mk) .mk
def wMakeL (j : Nat) (n : Str) (sp : DSp) (w : DA) : DEX := fun δ R Z => nmC δ[j]? (fun y => y = n ∧ wMakeX n sp w δ R Z) .mk
omit [Tb] in
@[simp ↓] theorem wCMeth_ap (n : Str) (sp : DSp) (wa : DA) (δ : DS) (R : Opd → DS → Prop) (Z : PyData → DS → Prop) : wCMeth n sp wa δ R Z = (wa δ fun os δ1 => lkL os δ1 fun xs δ2 => ∀ a : Addr, ask sp (.gx (.nm a n) :: xs.map Cell.d) (fun y _ => onX y (fun y => R (.d y) δ2) (fun n' fs' => Z (excD n' fs') δ2) .mk) .mk) := rfl
omit [Tb] in
@[simp ↓] theorem wMakeL_ap (j : Nat) (n : Str) (sp : DSp) (w : DA) (δ : DS) (R : Opd → DS → Prop) (Z : PyData → DS → Prop) : wMakeL j n sp w δ R Z = nmC δ[j]? (fun y => y = n ∧ wMakeX n sp w δ R Z) .mk := rfl
omit [Tb] in
theorem notX_ob (n : Str) (fs : List (Str × PyData)) : notX (obD n fs) := fun m gs e => by
  simp [obD, objD, excD] at e
omit [Tb] in
@[simp ↓] theorem onX_ob (n : Str) (fs : List (Str × PyData)) (k : PyData → Prop) (kx : Str → List (Str × PyData) → Prop) (u : Stop (k, kx)) : onX (obD n fs) k kx u = k (obD n fs) := onX_of (notX_ob n fs)
section
variable {X : Cx} {TL : XNames} {k j : Nat} {f C p g : Addr} {mc : Value} {fd : FuncData} {ps : List Str} {sp : DSp} {e : Expr} {es : List Expr} {wa : DA} {n x mn : Str} {pos apos px : Pos} {pl : Sem Bool}
theorem jex_cmeth (hC : PySem.W.nsIn X.K mainGlobals n = some (some (.ref C))) (r : ClX.CRead X.K C mc) (c : ClX.CMet X.K C mc mn p g) (F : FnG X.prog X.w X.K X.mg X.base (L2N.CX X.prog X.w) k g fd ps (liftSpX X.K TL sp)) (hr : RoomG k X.A) (hb : Binds X.K fd ps []) (hg : Gl X n) (hm : X.mg n = some (.ref C)) (ha : JA X (e :: es) wa)
    (hdb : (n == ("__debug__" : Str)) = false := by decide)
    (hst : starEach (e :: es) X.env = (false, eval e X.env) :: starEach es X.env := by rfl) (hpl : (backTo pos (starEach es X.env)).any (·.1) = false := by rfl)
    (ht : eval (.Call (.Attribute (.Name n px) mn apos) (e :: es) [] pos) X.env = (do
      let ov ← eval (.Name n px) X.env
      standAt apos.atName
      let (f, first) ← holding [ov] (getMethod ov mn pl)
      callWith pos f first (backTo pos (starEach (e :: es) X.env)) (backToKw pos (keywordEach [] X.env))) := by rfl) : JEX X TL (.Call (.Attribute (.Name n px) mn apos) (e :: es) [] pos) (wCMeth n sp wa) :=
  ⟨fun pins s σ H Q I ⟨B, G, δ, R, Z, rel, hw, kk, tk⟩ => (pe_cmethGS (E := WE (wxOf X.K TL B G Z)) (pe_glob (v := .ref C) hg hm rfl hdb) r c F hr hb (L2N.passAt tk) ha hst hpl ht).run pins s σ H Q I ⟨rfl, B, G, δ, _, rel, hw, fun vs H1 G1 os δ1 r1 s1 rel1 ok1 => by
    obtain ⟨G2, δ2, xs, q, s2, rel2, dnl⟩ := lkL_ok rel1 ok1 r1
    have od : OpdsOk X.K G2 σ vs (xs.map Opd.d) := opds_dn dnl
    have nd : (slotsOf (xs.map Opd.d)).Nodup := by rw [slots_d]; exact List.nodup_nil
    have rc := call_rel rel2 od nd
    rw [cells_d] at rc
    have rn := rc.consGx (t := .nm C n) (o := some (.ref C)) rfl ⟨rfl, .inr hC⟩
    show liftSpX X.K TL sp (V.ref C :: vs) H1 Q (WE (wxOf X.K TL B G Z) σ)
    refine ⟨_, G2, _, _, rn, q C, fun v H' G' z cs r s3 rel3 dn => ?_, fun cls d H' G' z cs r s3 rel3 ex => ?_⟩
    · cases cs with
      | nil => have := rel3.len; simp at this
      | cons c0 cs =>
        have back := call_back rel2 od nd s3 rel3.drop1
        rw [putBack_ds] at back
        exact kk v H' G' _ _ (onX_no r fun n fs e => by rw [e] at dn; exact dn_notX dn) (s1.trans (s2.trans s3)) back dn
    · obtain ⟨⟨n, C, fs, rfl, h2⟩, h3⟩ := ex
      cases cs with
      | nil => have := rel3.len; simp at this
      | cons c0 cs =>
        have back := call_back rel2 od nd s3 rel3.drop1
        rw [putBack_ds] at back
        exact ⟨G', _, _, onX_yes r, s1.trans (s2.trans s3), back, ⟨⟨n, C, fs, rfl, h2⟩, h3⟩⟩⟩⟩
theorem jex_makeL (ok : ObjK X.K n C) (M : Mk X.K C f) (F : FnG X.prog X.w X.K X.mg X.base (L2N.CX X.prog X.w) k f fd ps (liftSpX X.K TL sp)) (hr : RoomG (k + 1) X.A) (hb : Binds X.K fd ps []) (hC : PySem.W.nsIn X.K mainGlobals n = some (some (.ref C))) (hN : X.N[j]? = some x) (hv : Vis X.env.scope x) (ha : JA X (e :: es) wa) (hne : (n = "") = False := by decide)
    (hdb : (x == ("__debug__" : Str)) = false := by decide) (hcd : (x == ("__classdict__" : Str)) = false := by decide)
    (he : starEach (e :: es) X.env = (false, eval e X.env) :: starEach es X.env := by rfl) (hpl : (backTo pos (starEach es X.env)).any (·.1) = false := by rfl) : JEX X TL (.Call (.Name x px) (e :: es) [] pos) (wMakeL j n sp wa) :=
  ⟨fun pins s σ H Q I ⟨B, G, δ, R, Z, rel, ⟨a0, y0, hc0, ey, hw⟩, kk, tk⟩ => (pe_makeLS (E := WE (wxOf X.K TL B G Z)) M F hr hb hN hv (L2N.passAt tk) ha hdb hcd he hpl).run pins s σ H Q I ⟨by
      obtain ⟨o, hσ, eo, okc⟩ := rel.at hc0
      subst eo ey
      have ok : y0 = ("" : Str) ∨ PySem.W.nsIn X.K mainGlobals y0 = some (some (.ref a0)) := okc
      rcases ok with ok | ok
      · rw [hne] at ok; exact ok.elim
      · rw [hC] at ok; cases ok; exact hσ, B, G, δ, _, rel, hw, fun vs H1 G1 os δ1 r1 s1 rel1 ok1 => by
    obtain ⟨G2, δ2, xs, q, s2, rel2, dnl⟩ := lkL_ok rel1 ok1 r1
    intro a dx na ndx ne
    have od : OpdsOk X.K G2 σ vs (xs.map Opd.d) := opds_dn dnl
    have nd : (slotsOf (xs.map Opd.d)).Nodup := by rw [slots_d]; exact List.nodup_nil
    have rc := call_rel rel2 od nd
    rw [cells_d] at rc
    have rg := rc.grow (o := .own a) ndx
    have ro := rg.consOb (C := C) (dx := dx) (n := n) (a := a) (by rw [upd_ne (Ne.symm ne)]; exact na) ok
    have ends : ∀ {G' H' : Hp} {cs : List Cell} {fs : List (Str × PyData)} {rest : List Cell} {a' : Addr}, cs = .ob a' n fs :: rest → Same G2 G' → Rel X.K (hold B H1 δ2 (slotsOf (xs.map Opd.d))) G' cs ((V.ref a :: vs).map some) H' → ∃ G4, Same G' G4 ∧ Rel X.K B G4 δ2 σ H' ∧ Dn X.K G4 (.ref a) (obD n fs) := fun {G' H' cs fs rest a'} ec s3 rel3 => by
      subst ec
      obtain ⟨e', u, s4, rel4, dn4⟩ := rel3.dropOb
      cases e'
      have back := call_back rel2 od nd (s3.trans s4) rel4
      rw [putBack_ds] at back
      exact ⟨_, s4, back, dn4⟩
    refine ⟨_, G2, _, _, ro, q a, fun v H' G' z cs ⟨a', fs, rest, ec, r⟩ s3 rel3 dn => ?_, fun cls d H' G' z cs ⟨a', fs, rest, ec, r⟩ s3 rel3 ex => ?_⟩
    · obtain ⟨ez, r⟩ := onX_no r fun n fs e => by rw [e] at dn; exact dn_notX dn
      rw [ez] at dn
      obtain ⟨G4, s4, back, dn4⟩ := ends ec s3 rel3
      exact ⟨dn_none dn, kk _ H' _ _ _ r (s1.trans (s2.trans (s3.trans s4))) back dn4⟩
    · obtain ⟨⟨n', C', fs', rfl, h2⟩, h3⟩ := ex
      obtain ⟨G4, s4, back, dn4⟩ := ends ec s3 rel3
      exact ⟨G4, _, _, onX_yes r, s1.trans (s2.trans (s3.trans s4)), back, ⟨ExcAt.mono s4 ⟨n', C', fs', rfl, h2⟩, h3⟩⟩⟩⟩
def wPropX (m : List Bool) (n : Str) (sp : DSp) (w : DEX) : DEX := fun δ R Z => w δ (fun o δ2 => obIs o δ2 n ∧ lkM m [o] δ2 fun os' δ3 => (slotsOf os').Nodup ∧ ask sp (os'.map (cellOf δ3)) (fun x cs => R (.d x) (putBack os' cs δ3)) .mk) Z
omit [Tb] in
@[simp ↓] theorem wPropX_ap (m : List Bool) (n : Str) (sp : DSp) (w : DEX) (δ : DS) (R : Opd → DS → Prop) (Z : PyData → DS → Prop) : wPropX m n sp w δ R Z = w δ (fun o δ2 => obIs o δ2 n ∧ lkM m [o] δ2 fun os' δ3 => (slotsOf os').Nodup ∧ ask sp (os'.map (cellOf δ3)) (fun x cs => R (.d x) (putBack os' cs δ3)) .mk) Z := rfl
theorem jex_prop {m : List Bool} {o : Expr} {w : DEX} (hC : PySem.W.nsIn X.K mainGlobals n = some (some (.ref C))) (c : Cls X.K C) (hp : PropOf X.K C mn p f) (F : FnG X.prog X.w X.K X.mg X.base CX0 k f fd ps (liftSp X.K sp)) (hr : RoomG (k + 1) X.A) (hb : Binds X.K fd ps []) (he : JEX X TL o w)
    (hab : attributeBase o mn X.env (eval o X.env) = eval o X.env := by rfl) : JEX X TL (.Attribute o mn pos) (wPropX m n sp w) :=
  pe_le (pe_propS (E := fun _ => E0) he c hp F hr hb passAt0 hab) fun pins s σ H Q I ⟨B, G, δ, R, Z, rel, hw, kk, tk⟩ => ⟨B, G, δ, _, Z, rel, hw, fun v H1 G1 o δ1 ⟨r0, r1⟩ s1 rel1 ok1 => by
    obtain ⟨a, C', dx, ws, rfl, hH, k'⟩ := obIs_ok rel1 ok1 r0
    obtain rfl := k'.uniq hC
    obtain ⟨G4, δ4, os', ⟨nd, q⟩, s4, rel4, ok4⟩ := lkM_ok rel1 (OpdsOk.cons ok1 .nil) r1
    exact ⟨a, dx, ws, _, rfl, hH, _, G4, _, _, call_rel rel4 ok4 nd, q, fun v H' G' z cs r s5 rel5 dn => kk v H' G' _ _ r (s1.trans (s4.trans s5)) (call_back rel4 ok4 nd s5 rel5) dn⟩, tk⟩
end
end DL
set_option Elab.async false
set_option linter.all false
set_option maxRecDepth 100000
set_option maxHeartbeats 4000000
namespace DL
open PySem PySem.Spec PyProof.Rows L2
variable [Tb]
def revS (z : Str) : Str := ⟨((Builtin.Str.strSliceIndices none none (-1) z.length).filterMap (z.cps[·]?)).toArray⟩
omit [Tb] in
theorem revS_len (z : Str) : (revS z).length ≤ z.length := by
  have h : (Builtin.Str.strSliceIndices none none (-1) z.length).length ≤ z.length := by
    unfold Builtin.Str.strSliceIndices
    exact PySem.sliceRange_length_le _ _ _ _ (fun h => absurd h (by decide)) (fun _ => ⟨by simp, by simp⟩)
  have : (revS z).length ≤ (Builtin.Str.strSliceIndices none none (-1) z.length).length := by
    simp only [revS, Str.length, List.size_toArray]
    exact List.length_filterMap_le _ _
  omega
section
variable {X : Cx}
def tBackS (te : TE) : TE := fun σ H Q => te σ H fun x H1 => ∃ z, x = .str z ∧ z.length ≤ 1000000 ∧ Q (.str (revS z)) H1
theorem pe_backS {e : Expr} {te : TE} {k : Nat} {p1 p2 p3 pos : Pos} (he : PE X e te) :
    PE X (.Subscript e (.Slice none none (some (.UnaryOp .USub (.Constant (.int 1) k p1) p2)) p3) pos) (tBackS te) where
  run pins s σ H Q I h := by
    have minus : PO X (some (.UnaryOp .USub (.Constant (.int 1) k p1) p2)) (tPart (tUn (rU fun i => .int (-i)) (tC (.int 1)))) := po_some (pe_un un_neg pe_int)
    refine Subscript_ (wpAny_mono (he.run pins s σ H _ I h) ?_ fun _ _ z => z)
    rintro u1 s1 ⟨_, H1, I1, r1, z, rfl, hz, q⟩
    obtain ⟨t1, rfl⟩ : ∃ t1, u1 = Value.str z t1 := r1
    refine wpAny_Slice (wpAny_mono (po_none.run pins s1 σ H1 (fun o H2 => o = none ∧ H2 = H1) I1 ⟨rfl, rfl⟩) ?_ fun _ _ z => z)
    rintro vl s2 ⟨_, _, I2, pl, rfl, rfl⟩
    refine wpAny_mono (po_none.run pins s2 σ _ (fun o H3 => o = none ∧ H3 = _) I2 ⟨rfl, rfl⟩) ?_ fun _ _ z => z
    rintro vu s3 ⟨_, _, I3, pu, rfl, rfl⟩
    refine wpAny_mono (minus.run pins s3 σ _ (fun o H4 => o = some (-1) ∧ H4 = _) I3 ⟨1, rfl, -1, rfl, rfl, rfl⟩) ?_ fun _ _ z => z
    rintro vs ⟨hp, gs, dr, tk, os⟩ ⟨_, _, I4, ps, rfl, rfl⟩
    have I5 := I4.kept (t' := tk) (h' := hp.push { cls := .type "slice", data := .fields #[vl, vu, vs] }) fun _ _ z => Heap.get?_push_of_some _ z
    refine tail_any (ops := [.str z t1, .ref hp.objs.size]) (typeIs_str _ z t1) PySem.F.slot_str_getitem.lookup ?_ (by with_unfolding_all rfl)
    cases pl
    cases pu
    obtain ⟨t3, rfl⟩ : ∃ t3, vs = Value.int (-1) t3 := by
      cases ps
      exact ⟨_, rfl⟩
    refine wpAny_getItem_str_slice (l := none) (u := none) (st := some (-1, t3)) ⟨_, Heap.get?_push_size _ rfl, rfl, rfl⟩ rfl ?_
    have len := revS_len z
    have e : sliceMade z t1 none none (some (-1, t3)) = .str (revS z) := rfl
    rw [e]
    exact ⟨Nat.le_trans len (Nat.le_trans hz (by decide)), .str (revS z), _, I5.tok _, ⟨_, rfl⟩, q⟩
def wRevS (w : DE) : DE := fun δ R => w δ fun o δ1 => use o δ1 fun x => ∃ z, x = .str z ∧ z.length ≤ 1000000 ∧ R (.d (.str (revS z))) δ1
omit [Tb] in
@[simp ↓] theorem wRevS_ap (w : DE) (δ : DS) (R : Opd → DS → Prop) : wRevS w δ R = (w δ fun o δ1 => use o δ1 fun x => ∃ z, x = .str z ∧ z.length ≤ 1000000 ∧ R (.d (.str (revS z))) δ1) := rfl
theorem je_revS {e : Expr} {w : DE} {p1 p2 p3 pos : Pos} {k1} (h : JE X e w) : JE X (.Subscript e (.Slice none none (some (.UnaryOp .USub (.Constant (.int 1) k1 p1) p2)) p3) pos) (wRevS w) :=
  pe_le (pe_backS h) fun pins s σ H Q I ⟨B, G, δ, R, rel, hw, k⟩ => ⟨B, G, δ, _, rel, hw, fun v H1 G1 o δ1 r1 s1 rel1 ok1 => by
    obtain ⟨d, ⟨z, rfl, hz, q⟩, bd⟩ := use_ok rel1 ok1 r1
    cases bor_str bd
    exact ⟨z, rfl, hz, k _ _ _ _ _ q s1 rel1 (Dn.str _)⟩⟩
end
end DL
set_option Elab.async false
set_option linter.all false
set_option maxRecDepth 100000
set_option maxHeartbeats 4000000
namespace TW
open PySem PySem.Spec PyProof.Rows L2 DL

def BIG : Int := 2 ^ 4000
theorem BIG_nat : BIG.natAbs = 2 ^ 4000 := by decide +kernel
theorem BIG_ge : 10 ^ 60 ≤ BIG := by decide +kernel
theorem log_big {i : Int} (h : i.natAbs ≤ BIG.natAbs) : i.natAbs.log2 ≤ 4000 := by
  rw [BIG_nat] at h
  by_cases h0 : i.natAbs = 0
  · rw [h0]; decide
  · have : i.natAbs.log2 < 4001 := (Nat.log2_lt h0).mpr (Nat.lt_of_le_of_lt h (Nat.pow_lt_pow_right (by decide) (by decide)))
    omega
theorem abs_big {i : Int} (h0 : -BIG ≤ i) (h1 : i ≤ BIG) : i.natAbs ≤ BIG.natAbs := by
  have := BIG_ge
  omega
theorem mul_big {i j : Int} (h0 : -BIG ≤ i) (h1 : i ≤ BIG) (h2 : -BIG ≤ j) (h3 : j ≤ BIG) : CMul i j ∨ CMulW i j := by
  refine .inr ?_
  have a := log_big (abs_big h0 h1)
  have b := log_big (abs_big h2 h3)
  unfold CMulW
  omega
def Pos (x : Int) : Prop := 1 ≤ x ∧ x ≤ BIG
theorem Pos.of {x : Int} (h : 1 ≤ x) (h1 : x ≤ 10 ^ 60) : Pos x := ⟨h, by have := BIG_ge; omega⟩

def gcdI (a b : Int) : Int := (Int.gcd a b : Nat)
def invGo : Nat → Int → Int → Int → Int → Int
  | 0, _, _, _, later => later
  | f + 1, left, right, now, later => if left > 0 then invGo f (right - right / left * left) left (later - right / left * now) now else later
def invF (a b : Int) : Int := invGo (a % b).toNat.succ (a % b) b 1 0 % b
def timesF (a b s : Int) : Option Int := if s % gcdI a b ≠ 0 then none else some (s / gcdI a b * invF (a / gcdI a b) (b / gcdI a b) % (b / gcdI a b))
def isSum (a b s : Int) : Bool := match timesF a b s with
  | some t => decide (a * t ≤ s)
  | none => false
end TW
set_option Elab.async false
set_option linter.all false
set_option maxRecDepth 100000
set_option maxHeartbeats 4000000
namespace TW
open PySem PySem.Spec PyProof.Rows L2 DL

mutual
def wgt : PyData → Nat
  | .none => 8
  | .bool _ => 8
  | .int i => i.natAbs.log2 + 9
  | .str x => (PyData.shown (.str x)).length
  | .list xs => wgtL xs + 4
  | .tuple xs => wgtL xs + 4
  | .dict _ => 4
def wgtL : List PyData → Nat
  | [] => 0
  | x :: xs => wgt x + 2 + wgtL xs
end
mutual
def okd (z : Bool) : PyData → Bool
  | .none => true
  | .bool _ => true
  | .int i => decide (i.natAbs.log2 < (if z = true then 1900 else 1800))
  | .str x => PyData.strOk x
  | .list xs => okdL z xs
  | .tuple xs => okdL z xs
  | .dict kvs => z && kvs.isEmpty
def okdL (z : Bool) : List PyData → Bool
  | [] => true
  | x :: xs => okd z x && okdL z xs
end
structure Shp (z : Bool) (n w : Nat) (d : PyData) : Prop where
  ok : okd z d = true
  dp : d.depth ≤ n
  wt : wgt d ≤ w
structure ShpL (z : Bool) (n w : Nat) (xs : List PyData) : Prop where
  ok : okdL z xs = true
  dp : PyData.depthAll xs ≤ n
  wt : wgtL xs ≤ w
theorem Shp.mono {z : Bool} {n m w v : Nat} {d : PyData} (h : Shp z n w d) (hn : n ≤ m) (hw : w ≤ v) : Shp z m v d := ⟨h.ok, Nat.le_trans h.dp hn, Nat.le_trans h.wt hw⟩
theorem ShpL.nil {z : Bool} {n : Nat} : ShpL z n 0 [] := ⟨by simp [okdL], by simp [PyData.depthAll], by simp [wgtL]⟩
theorem ShpL.cons {z : Bool} {n w v : Nat} {x : PyData} {xs : List PyData} (h : Shp z n w x) (t : ShpL z n v xs) : ShpL z n (w + 2 + v) (x :: xs) :=
  ⟨by simp [okdL, h.ok, t.ok], by have := h.dp; have := t.dp; simp [PyData.depthAll]; omega, by have := h.wt; have := t.wt; simp only [wgtL]; omega⟩
theorem ShpL.of {z : Bool} {n w : Nat} : ∀ {xs : List PyData}, (∀ x ∈ xs, Shp z n w x) → ShpL z n (xs.length * (w + 2)) xs
  | [], _ => by simpa using ShpL.nil
  | x :: xs, h => by
    have := ShpL.cons (h x (List.mem_cons_self ..)) (ShpL.of fun y hy => h y (List.mem_cons_of_mem _ hy))
    have e : w + 2 + xs.length * (w + 2) = (x :: xs).length * (w + 2) := by rw [List.length_cons, Nat.succ_mul]; omega
    rw [e] at this; exact this
theorem ShpL.map {α : Type} {z : Bool} {n w k : Nat} {as : List α} {f : α → PyData} (h : ∀ a ∈ as, Shp z n w (f a)) (hk : as.length ≤ k) : ShpL z n (k * (w + 2)) (as.map f) := by
  have := ShpL.of (xs := as.map f) (z := z) (n := n) (w := w) fun x hx => by
    obtain ⟨a, ha, rfl⟩ := List.mem_map.mp hx
    exact h a ha
  rw [List.length_map] at this
  exact ⟨this.ok, this.dp, Nat.le_trans this.wt (Nat.mul_le_mul_right _ hk)⟩
theorem ShpL.mono {z : Bool} {n m w v : Nat} {d : List PyData} (h : ShpL z n w d) (hn : n ≤ m) (hw : w ≤ v) : ShpL z m v d := ⟨h.ok, Nat.le_trans h.dp hn, Nat.le_trans h.wt hw⟩
theorem okdL_app {z : Bool} : ∀ (xs ys : List PyData), okdL z (xs ++ ys) = (okdL z xs && okdL z ys)
  | [], ys => by simp [okdL]
  | x :: xs, ys => by simp [okdL, okdL_app xs ys, Bool.and_assoc]
theorem depthAll_app : ∀ (xs ys : List PyData), PyData.depthAll (xs ++ ys) = max (PyData.depthAll xs) (PyData.depthAll ys)
  | [], ys => by simp [PyData.depthAll]
  | x :: xs, ys => by simp only [List.cons_append, PyData.depthAll, depthAll_app xs ys]; omega
theorem wgtL_app : ∀ (xs ys : List PyData), wgtL (xs ++ ys) = wgtL xs + wgtL ys
  | [], ys => by simp [wgtL]
  | x :: xs, ys => by simp [wgtL, wgtL_app xs ys]; omega
theorem ShpL.app {z : Bool} {n w v : Nat} {xs ys : List PyData} (h : ShpL z n w xs) (t : ShpL z n v ys) : ShpL z n (w + v) (xs ++ ys) :=
  ⟨by rw [okdL_app, h.ok, t.ok]; rfl, by rw [depthAll_app]; have := h.dp; have := t.dp; omega, by rw [wgtL_app]; have := h.wt; have := t.wt; omega⟩
theorem Shp.list {z : Bool} {n w : Nat} {xs : List PyData} (h : ShpL z n w xs) : Shp z (n + 1) (w + 4) (.list xs) :=
  ⟨by simp only [okd]; exact h.ok, by simp only [PyData.depth]; have := h.dp; omega, by simp only [wgt]; have := h.wt; omega⟩
theorem Shp.tuple {z : Bool} {n w : Nat} {xs : List PyData} (h : ShpL z n w xs) : Shp z (n + 1) (w + 4) (.tuple xs) :=
  ⟨by simp only [okd]; exact h.ok, by simp only [PyData.depth]; have := h.dp; omega, by simp only [wgt]; have := h.wt; omega⟩
theorem Shp.none {z : Bool} {n : Nat} : Shp z n 8 .none := ⟨by simp [okd], by simp [PyData.depth], by simp [wgt]⟩
theorem Shp.bool {z : Bool} {n : Nat} {b : Bool} : Shp z n 8 (.bool b) := ⟨by simp [okd], by simp [PyData.depth], by simp [wgt]⟩
theorem Shp.intB {z : Bool} {n k : Nat} {i : Int} (h : i.natAbs.log2 ≤ k) (hk : k < 1800) : Shp z n (k + 9) (.int i) := ⟨by simp [okd]; split <;> omega, by simp [PyData.depth], by simp [wgt]; omega⟩
theorem log_le {i : Int} {k : Nat} (h0 : -(2 ^ k) < i) (h1 : i < 2 ^ k) : i.natAbs.log2 ≤ k := by
  by_cases z : i = 0
  · subst z; simp
  · have e : ((2 ^ k : Nat) : Int) = 2 ^ k := by simp
    have : i.natAbs < 2 ^ k := by omega
    have := (Nat.log2_lt (by omega)).mpr this
    omega
theorem Shp.int64 {z : Bool} {n : Nat} {i : Int} (h0 : -(2 ^ 64) < i) (h1 : i < 2 ^ 64) : Shp z n 73 (.int i) := Shp.intB (log_le h0 h1) (by decide)
theorem Shp.str {z : Bool} {n w : Nat} {x : Str} (h : PyData.strOk x = true) (hw : (PyData.shown (.str x)).length ≤ w) : Shp z n w (.str x) := ⟨by simp [okd, h], by simp [PyData.depth], by simp only [wgt]; exact hw⟩
theorem Shp.up {n w : Nat} {d : PyData} (h : Shp false n w d) : Shp true n w d := by
  have a : ∀ xs : List PyData, (∀ x ∈ xs, okd false x = true → okd true x = true) → okdL false xs = true → okdL true xs = true := by
    intro xs
    induction xs with
    | nil => intros; simp [okdL]
    | cons x xs ih =>
      intro h k
      simp only [okdL, Bool.and_eq_true] at k ⊢
      exact ⟨h x (List.mem_cons_self ..) k.1, ih (fun y hy => h y (List.mem_cons_of_mem _ hy)) k.2⟩
  refine ⟨?_, h.dp, h.wt⟩
  have := h.ok
  clear h
  revert this
  exact PyData.rec (motive_1 := fun d => okd false d = true → okd true d = true) (motive_2 := fun xs => okdL false xs = true → okdL true xs = true) (motive_3 := fun _ => True) (motive_4 := fun _ => True)
    (by simp [okd]) (by simp [okd]) (fun i h => by simp [okd] at h ⊢; omega) (by simp [okd]) (fun xs ih h => by simp only [okd] at h ⊢; exact ih h) (fun xs ih h => by simp only [okd] at h ⊢; exact ih h) (fun kvs _ h => by simp [okd] at h)
    (by simp [okdL]) (fun x xs h1 h2 h => by simp only [okdL, Bool.and_eq_true] at h ⊢; exact ⟨h1 h.1, h2 h.2⟩) trivial (fun _ _ _ _ => trivial) (fun _ _ _ _ => trivial) d

theorem okd_lay {z : Bool} (hz : z = false) (d : PyData) : okd z d = true → d.canLay0 = true := by
  subst hz
  exact PyData.rec (motive_1 := fun d => okd false d = true → d.canLay0 = true) (motive_2 := fun xs => okdL false xs = true → PyData.canLayAll0 xs = true) (motive_3 := fun _ => True) (motive_4 := fun _ => True)
    (by simp [PyData.canLay0]) (by simp [PyData.canLay0]) (by simp [PyData.canLay0]) (by simp [okd, PyData.canLay0]) (fun xs ih h => by simp only [okd] at h; simp only [PyData.canLay0]; exact ih h) (fun xs ih h => by simp only [okd] at h; simp only [PyData.canLay0]; exact ih h) (fun kvs _ h => by simp [okd] at h)
    (by simp [PyData.canLayAll0]) (fun x xs h1 h2 h => by simp only [okdL, Bool.and_eq_true] at h; simp only [PyData.canLayAll0, Bool.and_eq_true]; exact ⟨h1 h.1, h2 h.2⟩) trivial (fun _ _ _ _ => trivial) (fun _ _ _ _ => trivial) d
theorem okd_show {z : Bool} (d : PyData) : okd z d = true → d.showable = true := by
  exact PyData.rec (motive_1 := fun d => okd z d = true → d.showable = true) (motive_2 := fun xs => okdL z xs = true → PyData.showableAll xs = true) (motive_3 := fun _ => True) (motive_4 := fun _ => True)
    (by simp [PyData.showable]) (by simp [PyData.showable]) (fun i h => by simp only [okd, decide_eq_true_eq] at h; simp only [PyData.showable, decide_eq_true_eq]; split at h <;> omega) (by simp [PyData.showable]) (fun xs ih h => by simp only [okd] at h; simp only [PyData.showable]; exact ih h) (fun xs ih h => by simp only [okd] at h; simp only [PyData.showable]; exact ih h)
    (fun kvs _ h => by
      simp only [okd, Bool.and_eq_true] at h
      have : kvs = [] := by simpa using h.2
      subst this
      simp [PyData.showable, PyData.showableKv])
    (by simp [PyData.showableAll]) (fun x xs h1 h2 h => by simp only [okdL, Bool.and_eq_true] at h; simp only [PyData.showableAll, Bool.and_eq_true]; exact ⟨h1 h.1, h2 h.2⟩) trivial (fun _ _ _ _ => trivial) (fun _ _ _ _ => trivial) d
def lens (xs : List PyData) : Nat := (xs.map fun x => x.shown.length + 2).sum
theorem piled_lens : ∀ xs : List PyData, piled (xs.map PyData.shown) = lens xs
  | [] => by simp [piled, lens]
  | x :: xs => by
    have := piled_lens xs
    simp only [List.map_cons, piled, lens, List.sum_cons] at *
    omega
theorem textFrom_lens : ∀ (xs : List PyData) (k : Nat) (acc : Str), (textFrom k acc (xs.map PyData.shown)).length ≤ acc.length + lens xs
  | [], k, acc => by simp [textFrom, lens]
  | x :: r, k, acc => by
    have ih := textFrom_lens r (k + 1) (acc ++ (if k > 0 then ", " else "" : String) ++ x.shown)
    have e : (acc ++ (if k > 0 then ", " else "" : String) ++ x.shown).length ≤ acc.length + 2 + x.shown.length := by
      rw [strLen_append, strLen_append]
      split
      · have : ((", " : String) : Str).length = 2 := rfl
        omega
      · have : (("" : String) : Str).length = 0 := rfl
        omega
    show (textFrom (k + 1) _ (r.map PyData.shown)).length ≤ _
    simp only [lens, List.map_cons, List.sum_cons] at ih ⊢
    omega
theorem okd_len {z : Bool} (d : PyData) : okd z d = true → d.shown.length ≤ wgt d := by
  refine PyData.rec (motive_1 := fun d => okd z d = true → d.shown.length ≤ wgt d) (motive_2 := fun xs => okdL z xs = true → lens xs ≤ wgtL xs) (motive_3 := fun _ => True) (motive_4 := fun _ => True)
    ?_ ?_ ?_ ?_ ?_ ?_ ?_ ?_ ?_ trivial (fun _ _ _ _ => trivial) (fun _ _ _ _ => trivial) d
  · intro _; simp only [PyData.shown, wgt]; decide
  · intro b _; cases b <;> (simp only [PyData.shown, wgt]; decide)
  · intro i h
    have := int_text_length_le (show 0 < i.natAbs.log2 + 1 by omega) (show i.natAbs.log2 < i.natAbs.log2 + 1 by omega)
    simp only [PyData.shown, wgt]
    show (Str.ofString (toString i)).length ≤ _
    rw [PySem.ofString_length]
    omega
  · intro x _; simp only [wgt]; exact Nat.le_refl _
  · intro xs ih h
    have ih := ih (by simpa only [okd] using h)
    simp only [PyData.shown, shownAll_map, wgt]
    unfold listText
    rw [strLen_append]
    have q := textFrom_lens xs 0 "["
    have e1 : (("[" : String) : Str).length = 1 := rfl
    have e2 : (("]" : String) : Str).length = 1 := rfl
    omega
  · intro xs ih h
    have ih := ih (by simpa only [okd] using h)
    simp only [PyData.shown, shownAll_map, wgt]
    unfold tupleText
    rw [strLen_append, strLen_append]
    have e1 : (("(" : String) : Str).length = 1 := rfl
    have e2 : ((if (xs.map PyData.shown).length == 1 then ",)" else ")" : String) : Str).length ≤ 2 := by split <;> decide
    have j : (Str.join ", " (xs.map PyData.shown)).length ≤ piled (xs.map PyData.shown) := by
      by_cases z : xs.map PyData.shown = []
      · rw [z]; decide
      · have := join_length_add _ z; omega
    rw [piled_lens] at j
    omega
  · intro kvs _ h
    simp only [okd, Bool.and_eq_true] at h
    have : kvs = [] := by simpa using h.2
    subst this
    simp only [PyData.shown, wgt]
    decide
  · intro _; simp [lens, wgtL]
  · intro x xs h1 h2 h
    simp only [okdL, Bool.and_eq_true] at h
    have h1 := h1 h.1
    have h2 := h2 h.2
    simp only [lens, List.map_cons, List.sum_cons, wgtL] at *
    omega
theorem Shp.shaped {n w : Nat} {d : PyData} (h : Shp false n w d) (hn : n ≤ 60 := by decide) : SeqAt.shaped d = true := by
  have := okd_lay rfl d h.ok
  simp only [SeqAt.shaped, this, Bool.true_and, decide_eq_true_eq]
  have := h.dp
  omega
theorem Shp.repr {z : Bool} {n w : Nat} {d : PyData} {X : Prop} (h : Shp z n w d) (k : X) (hn : n ≤ 60 := by decide) (hw : w ≤ 16000000 := by decide) : d.showable = true ∧ d.depth ≤ 60 ∧ d.shown.length ≤ 16000000 ∧ X :=
  ⟨okd_show d h.ok, Nat.le_trans h.dp hn, Nat.le_trans (okd_len d h.ok) (Nat.le_trans h.wt hw), k⟩
theorem eqv_refl' {n w : Nat} {d : PyData} (h : Shp false n w d) : PyData.eqv d d = true := SeqAt.eqv_refl d (okd_lay rfl d h.ok)
theorem okdL_iff {z : Bool} : ∀ {xs : List PyData}, okdL z xs = true ↔ ∀ x ∈ xs, okd z x = true
  | [] => by simp [okdL]
  | x :: xs => by simp [okdL, okdL_iff (xs := xs)]
theorem depthL_iff {n : Nat} : ∀ {xs : List PyData}, PyData.depthAll xs ≤ n ↔ ∀ x ∈ xs, x.depth ≤ n
  | [] => by simp [PyData.depthAll]
  | x :: xs => by
    simp only [PyData.depthAll, List.forall_mem_cons, ← depthL_iff (xs := xs)]
    omega
theorem wgtL_mem : ∀ {xs : List PyData} {x : PyData}, x ∈ xs → wgt x + 2 ≤ wgtL xs
  | y :: ys, x, h => by
    simp only [wgtL]
    rcases List.mem_cons.mp h with rfl | h
    · omega
    · have := wgtL_mem h; omega
theorem wgtL_take : ∀ (xs : List PyData) (n : Nat), wgtL (xs.take n) ≤ wgtL xs
  | [], n => by simp
  | x :: xs, 0 => by simp [wgtL]
  | x :: xs, n + 1 => by have := wgtL_take xs n; simp only [List.take_succ_cons, wgtL]; omega
theorem wgtL_drop : ∀ (xs : List PyData) (n : Nat), wgtL (xs.drop n) ≤ wgtL xs
  | [], n => by simp
  | x :: xs, 0 => by simp
  | x :: xs, n + 1 => by have := wgtL_drop xs n; simp only [List.drop_succ_cons, wgtL]; omega
theorem ShpL.part {z : Bool} {n w : Nat} {xs ys : List PyData} (h : ShpL z n w xs) (hm : ∀ y ∈ ys, y ∈ xs) (hw : wgtL ys ≤ wgtL xs) : ShpL z n w ys :=
  ⟨okdL_iff.mpr fun y hy => okdL_iff.mp h.ok y (hm y hy), depthL_iff.mpr fun y hy => depthL_iff.mp h.dp y (hm y hy), Nat.le_trans hw h.wt⟩
theorem ShpL.take {z : Bool} {n w : Nat} {xs : List PyData} (h : ShpL z n w xs) (k : Nat) : ShpL z n w (xs.take k) := h.part (fun _ hy => List.mem_of_mem_take hy) (wgtL_take _ _)
theorem ShpL.drop {z : Bool} {n w : Nat} {xs : List PyData} (h : ShpL z n w xs) (k : Nat) : ShpL z n w (xs.drop k) := h.part (fun _ hy => List.mem_of_mem_drop hy) (wgtL_drop _ _)
theorem ShpL.cut {z : Bool} {n w : Nat} {xs : List PyData} (h : ShpL z n w xs) (lo hi : Option Int) : ShpL z n w (DL.cutD xs lo hi) := by
  unfold DL.cutD
  exact (h.drop _).take _
theorem ShpL.mem {z : Bool} {n w : Nat} {xs : List PyData} (h : ShpL z n w xs) {x : PyData} (hx : x ∈ xs) : Shp z n w x :=
  ⟨okdL_iff.mp h.ok x hx, depthL_iff.mp h.dp x hx, by have := wgtL_mem hx; have := h.wt; omega⟩
theorem Shp.items {z : Bool} {n w : Nat} {xs : List PyData} (h : Shp z (n + 1) w (.tuple xs)) : ShpL z n w xs :=
  ⟨by have := h.ok; simpa only [okd] using this, by have := h.dp; simp only [PyData.depth] at this; omega, by have := h.wt; simp only [wgt] at this; omega⟩
theorem Shp.pos {z : Bool} {n w : Nat} {xs : List PyData} (h : Shp z n w (.tuple xs)) : ∃ m, n = m + 1 := by
  have := h.dp
  simp only [PyData.depth] at this
  exact ⟨n - 1, by omega⟩
theorem ShpL.up {n w : Nat} {xs : List PyData} (h : ShpL false n w xs) : ShpL true n w xs :=
  ⟨okdL_iff.mpr fun x hx => (Shp.up (h.mem hx)).ok, h.dp, h.wt⟩
theorem strOk_of (s : String) : PyData.strOk (Str.ofString s) = true := by
  unfold PyData.strOk
  rw [Str.ofString_eq_toList]
  simp only [Array.all_toList.symm, List.all_eq_true, List.mem_map, decide_eq_true_eq]
  rintro x ⟨c, _, rfl⟩
  have := c.valid
  simp only [UInt32.isValidChar, Nat.isValidChar] at this
  show c.val.toNat < _
  omega
theorem Shp.text {z : Bool} {n k : Nat} {x : Str} (h : PyData.strOk x = true) (hk : x.length ≤ k) : Shp z n (10 * k + 2) (.str x) := by
  refine Shp.str h ?_
  have h2 : ∀ c ∈ x.cps.toList, c < 16 ^ 8 := fun c hc => by
    unfold PyData.strOk at h
    rw [← Array.all_toList, List.all_eq_true] at h
    have := h c hc
    simp only [decide_eq_true_eq] at this
    omega
  have := StrLaws.reprText_len x h2
  simp only [PyData.shown]
  omega
theorem Shp.ofStr {z : Bool} {n k : Nat} {s : String} (hk : s.length ≤ k) : Shp z n (10 * k + 2) (.str (Str.ofString s)) := Shp.text (strOk_of s) (by rw [PySem.ofString_length]; exact hk)
end TW
set_option Elab.async false
set_option linter.all false
set_option maxRecDepth 100000
set_option maxHeartbeats 4000000
namespace TW
open PySem PySem.Spec PyProof.Rows L2 DL

abbrev lI (ns : List Int) : List PyData := ns.map PyData.int
abbrev tI (ns : List Int) : PyData := .tuple (lI ns)
abbrev lN (ns : List Nat) : List PyData := ns.map fun (i : Nat) => PyData.int (i : Int)
abbrev prD (a b : List Int) : PyData := .tuple [tI a, tI b]
def gi (ns : List Int) (i : Nat) : Int := ns[i]?.getD 1
theorem gi_at {ns : List Int} {i : Nat} (h : i < ns.length) : ns[i]? = some (gi ns i) := by
  unfold gi; rw [List.getElem?_eq_getElem h]; rfl
theorem gi_mem {ns : List Int} {i : Nat} (h : i < ns.length) : gi ns i ∈ ns := by
  have := gi_at h
  exact List.mem_of_getElem? this
@[simp] theorem gi_cons0 (x : Int) (xs : List Int) : gi (x :: xs) 0 = x := rfl
@[simp] theorem gi_consS (x : Int) (xs : List Int) (i : Nat) : gi (x :: xs) (i + 1) = gi xs i := by simp [gi]
@[simp] theorem gi_cons1 (x : Int) (xs : List Int) : gi (x :: xs) 1 = gi xs 0 := by simp [gi]
theorem range_gi (ns : List Int) : (List.range ns.length).map (gi ns) = ns := by
  apply List.ext_getElem?
  intro i
  by_cases h : i < ns.length
  · rw [List.getElem?_map, List.getElem?_range h, gi_at h]; rfl
  · rw [List.getElem?_eq_none (by simp; omega), List.getElem?_eq_none (by omega)]
theorem numbered_gi (ns : List Int) : numbered 0 (lI ns) = (List.range ns.length).map fun (i : Nat) => .tuple [.int (i : Int), .int (gi ns i)] := by
  rw [numbered_zip]
  apply List.ext_getElem?
  intro i
  by_cases h : i < ns.length
  · have e : ns[i]? = some ns[i] := List.getElem?_eq_getElem h
    rw [List.getElem?_map, List.getElem?_map, List.getElem?_range h, List.getElem?_zipIdx, e]
    have := gi_at h
    rw [e] at this
    simp [Option.some.inj this]
  · rw [List.getElem?_eq_none (by simp; omega), List.getElem?_eq_none (by simp; omega)]
theorem gi_ext {as bs : List Int} (hl : as.length = bs.length) (h : ∀ i, i < as.length → gi as i = gi bs i) : as = bs := by
  rw [← range_gi as, ← range_gi bs, ← hl]
  exact List.map_congr_left fun i hi => h i (List.mem_range.mp hi)
theorem gi_range {n i : Nat} {f : Nat → Int} (h : i < n) : gi ((List.range n).map f) i = f i := by
  have := gi_at (ns := (List.range n).map f) (i := i) (by simpa using h)
  rw [List.getElem?_map, List.getElem?_range h] at this
  exact (Option.some.inj this).symm
theorem fm_map {α β : Type} (p : α → Bool) (f : α → β) (as : List α) : as.filterMap (fun a => if p a = true then some (f a) else none) = (as.filter p).map f := by
  induction as with
  | nil => rfl
  | cons a as ih => by_cases h : p a = true <;> simp [h, ih]
theorem shp_ints {z : Bool} {k L : Nat} {ns : List Int} (hl : ns.length ≤ L) (h : ∀ x ∈ ns, x.natAbs.log2 ≤ k) (hk : k < 1800 := by decide) : ShpL z 0 (L * (k + 9 + 2)) (lI ns) := ShpL.map (fun a ha => Shp.intB (h a ha) hk) hl
theorem shaped_nats (ns : List Nat) : SeqAt.shaped (.list (lN ns)) = true := by
  have := shaped_ints (ns.map fun (i : Nat) => (i : Int))
  rw [List.map_map] at this; exact this
theorem eqv_nats (ns : List Nat) : PyData.eqvAll (lN ns) [] = ns.isEmpty := by
  cases ns <;> simp [PyData.eqvAll]
theorem shaped_nil : SeqAt.shaped (.list []) = true := by decide
theorem eqvAll_ints : ∀ (as bs : List Int), PyData.eqvAll (lI as) (lI bs) = decide (as = bs)
  | [], [] => by simp [PyData.eqvAll]
  | [], _ :: _ => by simp [PyData.eqvAll]
  | _ :: _, [] => by simp [PyData.eqvAll]
  | a :: as, b :: bs => by
    have := eqvAll_ints as bs
    simp only [lI, List.map_cons, PyData.eqvAll, PyData.eqv] at this ⊢
    rw [this]
    by_cases h : a = b <;> simp [h]
theorem for_stay {g : DTG} {b : DTS} {δ : DS} {E : DEnds} {u : Stop E} {xs : List PyData} (P : DS → Prop) (h : P δ) (h0 : ∀ δ, P δ → E.nx δ)
    (hs : ∀ x ∈ xs, ∀ δ, P δ → ∀ (K B : DS → Prop) (T : PyData → DS → Prop), (∀ δ', P δ' → K δ') → g x δ fun δ1 => b { nx := K, rt := T, bk := B, ct := K } δ1) : forC g b xs δ E u :=
  for_inv (fun ys δ => (∀ y ∈ ys, y ∈ xs) ∧ P δ) (fun _ => False) (fun _ _ => False) ⟨fun _ h => h, h⟩ (fun δ h => h0 δ h.2) (fun _ h => h.elim) (fun _ _ h => h.elim) fun x ys δ h K B T hK _ _ =>
    hs x (h.1 x (List.mem_cons_self ..)) δ h.2 K B T fun δ' hp => hK δ' ⟨fun y hy => h.1 y (List.mem_cons_of_mem _ hy), hp⟩
theorem com_nil {g : DTG} {t : DT} {e : DE} {vs : List Nat} {acc : List PyData} {δ : DS} {R : List PyData → DS → Prop} {u : Stop R} : comC g t e vs [] acc δ R u = R acc δ := rfl
theorem com_cons {g : DTG} {t : DT} {e : DE} {vs : List Nat} {x : PyData} {xs acc : List PyData} {δ : DS} {R : List PyData → DS → Prop} {u : Stop R} : comC g t e vs (x :: xs) acc δ R u =
  (g x δ fun δ1 => t δ1 fun b δ2 => if b = true then e δ2 fun o δ3 => lk o δ3 fun y δ4 => comC g t e vs xs (acc ++ [y]) (wipeD δ4 vs) R .mk else comC g t e vs xs acc (wipeD δ2 vs) R .mk) := rfl
theorem for_find {g : DTG} {b : DTS} {δ : DS} {E : DEnds} {u : Stop E} {xs : List PyData} {α : Type} (as : List α) (d : α → PyData) (hx : xs = as.map d) (P : DS → Prop) (bad : α → Bool) (r : α → PyData) (h : P δ)
    (h0 : as.find? bad = none → ∀ δ, P δ → E.nx δ) (h1 : ∀ a, as.find? bad = some a → ∀ δ, P δ → E.rt (r a) δ)
    (hs : ∀ pre a post δ, as = pre ++ a :: post → (∀ x ∈ pre, bad x = false) → P δ → ∀ (K B : DS → Prop) (T : PyData → DS → Prop), (bad a = false → ∀ δ', P δ' → K δ') → (bad a = true → ∀ δ', P δ' → T (r a) δ') → g (d a) δ fun δ1 => b { nx := K, rt := T, bk := B, ct := K } δ1) : forC g b xs δ E u := by
  refine for_map as d hx (fun rest δ => ∃ pre, as = pre ++ rest ∧ (∀ x ∈ pre, bad x = false) ∧ P δ) (fun _ => False) (fun x δ => ∃ a, as.find? bad = some a ∧ x = r a ∧ P δ) ⟨[], rfl, by simp, h⟩ ?_ (fun _ h => h.elim) ?_ ?_
  · rintro δ ⟨pre, he, hp, hP⟩
    have : pre = as := by rw [he]; simp
    subst this
    exact h0 (List.find?_eq_none.mpr fun x hx => by simp [hp x hx]) δ hP
  · rintro x δ ⟨a, ha, rfl, hP⟩
    exact h1 a ha δ hP
  · rintro a rest δ ⟨pre, he, hp, hP⟩ K B T hK _ hT
    refine hs pre a rest δ he hp hP K B T (fun hb δ' hP' => hK δ' ⟨pre ++ [a], by rw [he]; simp, fun x hx => ?_, hP'⟩) (fun hb δ' hP' => hT _ δ' ⟨a, ?_, rfl, hP'⟩)
    · rcases List.mem_append.mp hx with q | q
      · exact hp x q
      · rw [List.mem_singleton.mp q]; exact hb
    · rw [he, List.find?_append]
      have : pre.find? bad = none := List.find?_eq_none.mpr fun x hx => by simp [hp x hx]
      rw [this, List.find?_cons, hb]; rfl
def gd (ds : List PyData) (i : Nat) : PyData := ds[i]?.getD .none
theorem gd_at {ds : List PyData} {i : Nat} (h : i < ds.length) : ds[i]? = some (gd ds i) := by
  unfold gd; rw [List.getElem?_eq_getElem h]; rfl
theorem numbered_gd (ds : List PyData) : numbered 0 ds = (List.range ds.length).map fun (i : Nat) => .tuple [.int (i : Int), gd ds i] := by
  have := numbered_zip id ds 0
  rw [List.map_id] at this
  rw [this]
  apply List.ext_getElem?
  intro i
  by_cases h : i < ds.length
  · have e : ds[i]? = some ds[i] := List.getElem?_eq_getElem h
    rw [List.getElem?_map, List.getElem?_map, List.getElem?_range h, List.getElem?_zipIdx, e]
    have := gd_at h
    rw [e] at this
    simp [Option.some.inj this]
  · rw [List.getElem?_eq_none (by simp; omega), List.getElem?_eq_none (by simp; omega)]
end TW
set_option Elab.async false
set_option linter.all false
set_option maxRecDepth 100000
set_option maxHeartbeats 4000000
namespace TW
open PySem PySem.Spec PyProof.Rows L2 DL
def optI : Option Int → PyData
  | some x => .int x
  | none => .none
@[simp] theorem optI_some (x : Int) : optI (some x) = .int x := rfl
@[simp] theorem optI_none : optI none = .none := rfl
def restsF (br bx : List Int) : List Nat := (List.range bx.length).filter fun i => !decide (gi bx i % gi br i = 0)
def sp_rests : DSp := fun cs R => ∃ br bx : List Int, cs = [.d (tI br), .d (tI bx)] ∧ bx.length ≤ br.length ∧ (∀ x ∈ br, 1 ≤ x) ∧ R (.list (lN (restsF br bx))) cs
structure PB (a b bx : List Int) : Prop where
  la : a.length = bx.length
  lb : b.length = bx.length
  l0 : 0 < bx.length
  l1 : bx.length ≤ 10
  pa : ∀ x ∈ a, Pos x
  pb : ∀ x ∈ b, Pos x
  px : ∀ x ∈ bx, Pos x
def w_rests : DTS := (wRet (wOfL (wComp (iEnumD (wCons (wVar 1) wNil)) (gT (gsCons (gN 2) (gsCons (gN 3) gsNil))) (wB (wOp pNe (wOp pMod (wVar 3) (wOp pIx (wVar 0) (wVar 2))) (wC (.int 0)))) (wVar 2) [2, 3])))
theorem ln_rests : ∀ cs R, sp_rests cs R → cs.length = 2 := by
  intro cs R h
  unfold sp_rests at h
  repeat (obtain ⟨_, h⟩ := h)
  subst_vars; rfl
end TW
set_option Elab.async false
set_option linter.all false
set_option maxRecDepth 100000
set_option maxHeartbeats 4000000
namespace TW
open PySem PySem.Spec PyProof.Rows L2 DL
theorem rd_rests : ∀ cs R, sp_rests cs R → w_rests (endsOf cs R) (start0 4 cs) := by
  rintro _ R ⟨br, bx, rfl, hl, hb, hR⟩
  simp -implicitDefEqProofs -dsimp [w_rests]
  refine com_map (List.range bx.length) _ (numbered_gi _) (fun i => if (!decide (gi bx i % gi br i = 0)) = true then some (.int (i : Nat)) else none) (fun i hi acc K hK => ?_) ?_
  · have hi := List.mem_range.mp hi
    have p := hb _ (gi_mem (ns := br) (i := i) (by omega))
    simp -implicitDefEqProofs -dsimp [gi_at (ns := br) (i := i) (by omega)]
    refine ⟨by omega, ?_⟩
    split
    · rename_i z
      simpa [z] using hK
    · rename_i z
      simpa [z] using hK
  · rw [fm_map]
    (try simp -implicitDefEqProofs -dsimp)
    exact hR
theorem PB.at {a b bx : List Int} (h : PB a b bx) {i : Nat} (hi : i < bx.length) : a[i]? = some (gi a i) ∧ b[i]? = some (gi b i) ∧ bx[i]? = some (gi bx i) ∧ Pos (gi a i) ∧ Pos (gi b i) ∧ Pos (gi bx i) :=
  have ha : i < a.length := by have := h.la; omega
  have hb : i < b.length := by have := h.lb; omega
  ⟨gi_at ha, gi_at hb, gi_at hi, h.pa _ (gi_mem ha), h.pb _ (gi_mem hb), h.px _ (gi_mem hi)⟩
end TW
set_option Elab.async false
set_option linter.all false
set_option maxRecDepth 100000
set_option maxHeartbeats 4000000
namespace TW
open PySem PySem.Spec PyProof.Rows L2 DL
abbrev sp_Ldeck : DSpM := spDeck
abbrev sp_Ldraw : DSp := spDraw
def In (m : Int) (ns : List Int) : Prop := ∀ x ∈ ns, 1 ≤ x ∧ x ≤ m
def sp_Lone : DSp := fun cs R => ∃ a b c d xs, cs = [.dk a b c, .d d] ∧ seqOf d = some xs ∧ 0 < xs.length ∧ xs.length ≤ 1000000 ∧ ∀ x ∈ xs, R x [.dk a b c, .d d]
def IsPlainBox (p ns : List Int) (m : Int) : Prop := ns.length = p.length ∧ ∀ i, i < p.length → ∃ k, 1 ≤ k ∧ k ≤ m ∧ gi ns i = gi p i * k
structure Pr (p q : List Int) : Prop where
  l : q.length = p.length
  l0 : 0 < p.length
  l1 : p.length ≤ 10
  p : ∀ x ∈ p, 1 ≤ x ∧ x < 2 ^ 60
  q : ∀ x ∈ q, 1 ≤ x ∧ x < 2 ^ 60
def vol (ns : List Int) : Int := ns.foldl (fun a b => a * b) 1
def w_Lone : DTS := (wRet (wOp pIx (wVar 1) (wCall [true, false] sp_Ldraw (wCons (wVar 0) (wCons (wFn pLen (wCons (wVar 1) wNil)) wNil)))))
theorem ln_Lone : ∀ cs R, sp_Lone cs R → cs.length = 2 := by
  intro cs R h
  unfold sp_Lone at h
  repeat (obtain ⟨_, h⟩ := h)
  subst_vars; rfl
end TW
set_option Elab.async false
set_option linter.all false
set_option maxRecDepth 100000
set_option maxHeartbeats 4000000
namespace TW
open PySem PySem.Spec PyProof.Rows L2 DL
theorem rd_Lone : ∀ cs R, sp_Lone cs R → w_Lone (endsOf cs R) (start0 2 cs) := by
  rintro _ R ⟨a, b, c, d, xs, rfl, hd, h0, h1, hR⟩
  cases d with
  | list ds =>
    cases hd
    simp -implicitDefEqProofs -dsimp [w_Lone]
    refine ask_draw (by omega) (by omega) fun r q0 q1 => ?_
    (try simp -implicitDefEqProofs -dsimp)
    obtain ⟨z, hz, e⟩ := atI_ex (xs := xs) q0 q1
    exact onS_of e (by simp -implicitDefEqProofs -dsimp; exact hR z hz)
  | tuple ds =>
    cases hd
    simp -implicitDefEqProofs -dsimp [w_Lone]
    refine ask_draw (by omega) (by omega) fun r q0 q1 => ?_
    (try simp -implicitDefEqProofs -dsimp)
    obtain ⟨z, hz, e⟩ := atI_ex (xs := xs) q0 q1
    exact onS_of e (by simp -implicitDefEqProofs -dsimp; exact hR z hz)
  | _ => cases hd
theorem In.set {m y : Int} {ns : List Int} {n : Nat} (h : In m ns) (h0 : 1 ≤ y) (h1 : y ≤ m) : In m (ns.set n y) := fun x hx => by
  rcases List.mem_or_eq_of_mem_set hx with q | q
  · exact h x q
  · subst q; exact ⟨h0, h1⟩
theorem Pr.at {p q : List Int} (h : Pr p q) {i : Nat} (hi : i < p.length) : p[i]? = some (gi p i) ∧ q[i]? = some (gi q i) ∧ (1 ≤ gi p i ∧ gi p i < 2 ^ 60) ∧ (1 ≤ gi q i ∧ gi q i < 2 ^ 60) :=
  have hj : i < q.length := by have := h.l; omega
  ⟨gi_at hi, gi_at hj, h.p _ (gi_mem hi), h.q _ (gi_mem hj)⟩
theorem gi_set {ns : List Int} {i k : Nat} {y : Int} (hi : i < ns.length) : gi (ns.set k y) i = if i = k then y else gi ns i := by
  unfold gi
  rw [List.getElem?_set]
  by_cases h : k = i
  · subst h; simp [hi]
  · rw [if_neg h, if_neg (fun e => h e.symm)]
theorem IsPlainBox.of {p ns : List Int} {m : Int} (hl : ns.length = p.length) (h : ∀ i, i < p.length → ∃ k, 1 ≤ k ∧ k ≤ m ∧ gi ns i = gi p i * k) : IsPlainBox p ns m := ⟨hl, h⟩
theorem foldl_app {ns : List Int} {x y : Int} : (ns ++ [x]).foldl (fun a b => a * b) y = ns.foldl (fun a b => a * b) y * x := by simp
theorem vol_cons (x : Int) (xs : List Int) : vol (x :: xs) = x * vol xs := by
  unfold vol
  have : ∀ (l : List Int) (y z : Int), l.foldl (fun a b => a * b) (y * z) = y * l.foldl (fun a b => a * b) z := by
    intro l
    induction l with
    | nil => intros; rfl
    | cons w l ih => intro y z; simp only [List.foldl_cons]; rw [Int.mul_assoc, ih]
  rw [List.foldl_cons, Int.one_mul, ← this xs x 1, Int.mul_one]
theorem vol_pos : ∀ {ns : List Int}, (∀ x ∈ ns, 1 ≤ x) → 1 ≤ vol ns
  | [], _ => by simp [vol]
  | x :: xs, h => by
    have a := h x (List.mem_cons_self ..)
    have b := vol_pos fun y hy => h y (List.mem_cons_of_mem _ hy)
    rw [vol_cons]
    have := Int.mul_le_mul a b (by omega) (by omega)
    omega
end TW
set_option Elab.async false
set_option linter.all false
set_option maxRecDepth 100000
set_option maxHeartbeats 4000000
namespace TW
open PySem PySem.Spec PyProof.Rows L2 DL
def Fill (a b bx : List Int) : Prop := (∀ i, i < bx.length → gi a i ∣ gi bx i) ∨ (∀ i, i < bx.length → gi b i ∣ gi bx i) ∨
  ∃ ax, ax < bx.length ∧ (∀ i, i < bx.length → i ≠ ax → gi a i ∣ gi bx i ∧ gi b i ∣ gi bx i) ∧ isSum (gi a ax) (gi b ax) (gi bx ax) = true
end TW
set_option Elab.async false
set_option linter.all false
set_option maxRecDepth 100000
set_option maxHeartbeats 4000000
namespace TW
open PySem PySem.Spec PyProof.Rows L2 DL
@[simp] theorem endsM_nx (i : Nat) (cs : List Cell) (R : Cell → List Cell → Prop) (δ : DS) : (endsM i cs R).nx δ = (sameIo cs δ ∧ cs.length ≤ i ∧ ∃ a xs, δ[i]? = some (.ol a xs) ∧ R (.ol a xs) (outC cs δ)) := rfl
end TW
set_option Elab.async false
set_option linter.all false
set_option maxRecDepth 100000
set_option maxHeartbeats 4000000
namespace TW
open PySem PySem.Spec PyProof.Rows L2 DL
end TW
set_option Elab.async false
set_option linter.all false
set_option maxRecDepth 100000
set_option maxHeartbeats 4000000
namespace TW
open PySem PySem.Spec PyProof.Rows L2 DL
end TW
set_option Elab.async false
set_option linter.all false
set_option maxRecDepth 100000
set_option maxHeartbeats 4000000
namespace TW
open PySem PySem.Spec PyProof.Rows L2 DL
def cellsStep (found : List (List Int)) (side : Int) : List (List Int) := found.flatMap fun cell => (List.range side.toNat).map fun (k : Nat) => cell ++ [(k : Int)]
def cellsF (ns : List Int) : List (List Int) := ns.foldl cellsStep [[]]
abbrev lT (cs : List (List Int)) : List PyData := cs.map fun c => tI c
def CellsOk (ns : List Int) : Prop := (∀ x ∈ ns, 0 ≤ x) ∧ ∀ k, k ≤ ns.length → vol (ns.take k) ≤ 1000000
end TW
set_option Elab.async false
set_option linter.all false
set_option maxRecDepth 100000
set_option maxHeartbeats 4000000
namespace TW
open PySem PySem.Spec PyProof.Rows L2 DL
theorem step_len (found : List (List Int)) (s : Int) : (cellsStep found s).length = found.length * s.toNat := by
  unfold cellsStep
  induction found with
  | nil => simp
  | cons x xs ih => rw [List.flatMap_cons, List.length_append, ih, List.length_map, List.length_range, List.length_cons, Nat.succ_mul, Nat.add_comm]
theorem cells_app (ns : List Int) (s : Int) : cellsF (ns ++ [s]) = cellsStep (cellsF ns) s := by unfold cellsF; rw [List.foldl_append]; rfl
theorem vol_app (ns : List Int) (s : Int) : vol (ns ++ [s]) = vol ns * s := by unfold vol; rw [foldl_app]
theorem cells_len : ∀ (n : Nat) (ns : List Int), ns.length = n → (∀ x ∈ ns, 0 ≤ x) → ((cellsF ns).length : Int) = vol ns
  | 0, ns, hl, _ => by rw [List.length_eq_zero_iff.mp hl]; rfl
  | n + 1, ns, hl, h => by
    obtain ⟨ms, s, rfl⟩ : ∃ ms s, ns = ms ++ [s] := ⟨ns.dropLast, ns.getLast (by intro e; rw [e] at hl; cases hl), (List.dropLast_concat_getLast _).symm⟩
    have hs := h s (by simp)
    rw [cells_app, vol_app, step_len, Int.natCast_mul, cells_len n ms (by simpa using hl) fun x hx => h x (by simp [hx]), Int.toNat_of_nonneg hs]
theorem vol_pre {as bs : List Int} (h : ∀ x ∈ as ++ bs, 1 ≤ x) : vol as ≤ vol (as ++ bs) := by
  have e : vol (as ++ bs) = vol as * vol bs := by
    induction as with
    | nil => rw [List.nil_append]; show _ = 1 * _; omega
    | cons a as ih =>
      rw [List.cons_append, vol_cons, vol_cons, ih fun x hx => h x (by simp at hx ⊢; exact .inr hx), Int.mul_assoc]
  rw [e]
  have a1 := vol_pos (ns := as) fun x hx => h x (by simp [hx])
  have b1 := vol_pos (ns := bs) fun x hx => h x (by simp [hx])
  have := Int.mul_le_mul_of_nonneg_left b1 (show 0 ≤ vol as by omega)
  omega
theorem cells_lens : ∀ (n : Nat) (ns : List Int), ns.length = n → ∀ c ∈ cellsF ns, c.length = n
  | 0, ns, hl, c, hc => by rw [List.length_eq_zero_iff.mp hl] at hc; simp [cellsF] at hc; rw [hc]; rfl
  | n + 1, ns, hl, c, hc => by
    obtain ⟨ms, s, rfl⟩ : ∃ ms s, ns = ms ++ [s] := ⟨ns.dropLast, ns.getLast (by intro e; rw [e] at hl; cases hl), (List.dropLast_concat_getLast _).symm⟩
    rw [cells_app] at hc
    unfold cellsStep at hc
    rw [List.mem_flatMap] at hc
    obtain ⟨d, hd, hc⟩ := hc
    rw [List.mem_map] at hc
    obtain ⟨k, _, rfl⟩ := hc
    rw [List.length_append, cells_lens n ms (by simpa using hl) d hd]; rfl
theorem mem_cells : ∀ (n : Nat) (ns : List Int), ns.length = n → ∀ c : List Int, c ∈ cellsF ns ↔ c.length = n ∧ ∀ i, i < n → 0 ≤ gi c i ∧ gi c i < gi ns i
  | 0, ns, hl, c => by
    rw [List.length_eq_zero_iff.mp hl]
    simp [cellsF]
  | n + 1, ns, hl, c => by
    obtain ⟨ms, s, rfl⟩ : ∃ ms s, ns = ms ++ [s] := ⟨ns.dropLast, ns.getLast (by intro e; rw [e] at hl; cases hl), (List.dropLast_concat_getLast _).symm⟩
    have hm : ms.length = n := by simpa using hl
    rw [cells_app]
    unfold cellsStep
    simp only [List.mem_flatMap, List.mem_map, List.mem_range]
    have gl : ∀ {as : List Int} {x : Int} {i : Nat}, i < as.length → gi (as ++ [x]) i = gi as i := fun h => by unfold gi; rw [List.getElem?_append_left h]
    have ge : ∀ {as : List Int} {x : Int} {i : Nat}, i = as.length → gi (as ++ [x]) i = x := fun h => by subst h; unfold gi; simp
    constructor
    · rintro ⟨d, hd, k, hk, rfl⟩
      obtain ⟨h1, h2⟩ := (mem_cells n ms hm d).mp hd
      refine ⟨by simp [h1], fun i hi => ?_⟩
      by_cases q : i < n
      · rw [gl (by omega), gl (by omega)]; exact h2 i q
      · rw [ge (by omega), ge (by omega)]; omega
    · rintro ⟨h1, h2⟩
      obtain ⟨d, x, rfl⟩ : ∃ d x, c = d ++ [x] := ⟨c.dropLast, c.getLast (by intro e; rw [e] at h1; cases h1), (List.dropLast_concat_getLast _).symm⟩
      have hd : d.length = n := by simpa using h1
      have hx := h2 n (by omega)
      rw [ge (by omega), ge (by omega)] at hx
      refine ⟨d, (mem_cells n ms hm d).mpr ⟨hd, fun i hi => ?_⟩, x.toNat, by omega, by rw [Int.toNat_of_nonneg hx.1]⟩
      have := h2 i (by omega)
      rwa [gl (by omega), gl (by omega)] at this
theorem CellsOk.of {ns : List Int} (h1 : ∀ x ∈ ns, 1 ≤ x) (h2 : vol ns ≤ 1000000) : CellsOk ns := ⟨fun x hx => by have := h1 x hx; omega, fun k _ => by
  have := vol_pre (as := ns.take k) (bs := ns.drop k) fun x hx => h1 x (by rwa [List.take_append_drop] at hx)
  rw [List.take_append_drop] at this
  omega⟩
end TW
set_option Elab.async false
set_option linter.all false
set_option maxRecDepth 100000
set_option maxHeartbeats 4000000
namespace TW
open PySem PySem.Spec PyProof.Rows L2 DL
end TW
set_option Elab.async false
set_option linter.all false
set_option maxRecDepth 100000
set_option maxHeartbeats 4000000
namespace TW
open PySem PySem.Spec PyProof.Rows L2 DL
end TW
set_option Elab.async false
set_option linter.all false
set_option maxRecDepth 100000
set_option maxHeartbeats 4000000
namespace TW
open PySem PySem.Spec PyProof.Rows L2 DL
def oddL : List PyData := [.none, .bool true, .bool false, .int 0, .int 1, .int 2, .int (-1), .int (10 ^ 30), .str "", .str "a", .str "0", .str "2x3", .tuple [], .list [], .dict [], .tuple [.int 0], .tuple [.int 1], .tuple [.int 0, .int 0], .tuple [.int 1, .int 1],
  .tuple [.bool true], .tuple [.int 0, .tuple [.int 0]], .tuple [.int 0, .tuple [.int 0, .int 0]], .tuple [.int 1, .tuple [.int 0, .int 0]], .tuple [.int 0, .tuple [.int 0, .int 0], .int 1], .tuple [.tuple [.int 0, .int 0], .int 1], .tuple [.tuple [.int 0], .int 1], .tuple [.str "step", .int 0],
  .tuple [.none], .tuple [.int (-1)], .tuple [.int 0, .tuple [.int (-1)]], .tuple [.int 0, .tuple [.bool true, .int 0]], .tuple [.int 2, .int 1], .tuple [.tuple [.int 2, .int 1], .tuple [.int 1, .int 2]], .tuple [.tuple [.int 2], .tuple [.int 3]]]
def sp_Lodd : DSp := fun cs R => ∃ a b c, cs = [.dk a b c] ∧ ∀ x ∈ oddL, R x [.dk a b c]
def wholeB (lo hi : Int) : PyData → Bool
  | .int i => decide (lo ≤ i) && decide (i ≤ hi)
  | _ => false
def sp_is_integer : DSp := fun cs R => ∃ d lo hi, cs = [.d d, .d (.int lo), .d (.int hi)] ∧ R (.bool (wholeB lo hi d)) [.d d, .d (.int lo), .d (.int hi)]
def sp_Lfar : DSp := fun cs R => ∃ a b c, cs = [.dk a b c] ∧ ∀ i : Int, 1 ≤ i → i ≤ 10 ^ 12 → R (.int i) [.dk a b c]
def sp_Lwide : DSp := fun cs R => ∃ a b c n, cs = [.dk a b c, .d (.int n)] ∧ 0 ≤ n ∧ n ≤ 1000 ∧ ∀ ns : List Int, ns.length = n.toNat → In (10 ^ 12) ns → R (tI ns) [.dk a b c, .d (.int n)]
def w_is_integer : DTS := (wRet (wAndV (wIsi "int" (wVar 0)) (wAndV (wNotV (wIsi "bool" (wVar 0))) (wChain pLe pLe (wVar 1) (wVar 0) (wVar 2)))))
def w_Lodd_s1 : DTS := (wRet (wCall [true, false] sp_Lone (wCons (wVar 0) (wCons (wOp pAddB (wVar 1) (wOfL (wLst (wCons (wTup (wCons (wC .none) wNil)) (wCons (wTup (wCons (wUn pNeg (wC (.int 1))) wNil)) (wCons (wTup (wCons (wC (.int 0)) (wCons (wTup (wCons (wUn pNeg (wC (.int 1))) wNil)) wNil))) (wCons (wTup (wCons (wC (.int 0)) (wCons (wTup (wCons (wC (.bool true)) (wCons (wC (.int 0)) wNil))) wNil))) (wCons (wTup (wCons (wC (.int 2)) (wCons (wC (.int 1)) wNil))) (wCons (wTup (wCons (wTup (wCons (wC (.int 2)) (wCons (wC (.int 1)) wNil))) (wCons (wTup (wCons (wC (.int 1)) (wCons (wC (.int 2)) wNil))) wNil))) (wCons (wTup (wCons (wTup (wCons (wC (.int 2)) wNil)) (wCons (wTup (wCons (wC (.int 3)) wNil)) wNil))) wNil)))))))))) wNil))))
@[simp ↓] theorem w_Lodd_s1_ap (E : DEnds) (δ : DS) : w_Lodd_s1 E δ = (wRet (wCall [true, false] sp_Lone (wCons (wVar 0) (wCons (wOp pAddB (wVar 1) (wOfL (wLst (wCons (wTup (wCons (wC .none) wNil)) (wCons (wTup (wCons (wUn pNeg (wC (.int 1))) wNil)) (wCons (wTup (wCons (wC (.int 0)) (wCons (wTup (wCons (wUn pNeg (wC (.int 1))) wNil)) wNil))) (wCons (wTup (wCons (wC (.int 0)) (wCons (wTup (wCons (wC (.bool true)) (wCons (wC (.int 0)) wNil))) wNil))) (wCons (wTup (wCons (wC (.int 2)) (wCons (wC (.int 1)) wNil))) (wCons (wTup (wCons (wTup (wCons (wC (.int 2)) (wCons (wC (.int 1)) wNil))) (wCons (wTup (wCons (wC (.int 1)) (wCons (wC (.int 2)) wNil))) wNil))) (wCons (wTup (wCons (wTup (wCons (wC (.int 2)) wNil)) (wCons (wTup (wCons (wC (.int 3)) wNil)) wNil))) wNil)))))))))) wNil)))) E δ := rfl
def w_Lodd_s2 : DTS := (wSeq (wSet 1 (mE (wOp pAddB (wVar 1) (wOfL (wLst (wCons (wTup (wCons (wC (.bool true)) wNil)) (wCons (wTup (wCons (wC (.int 0)) (wCons (wTup (wCons (wC (.int 0)) wNil)) wNil))) (wCons (wTup (wCons (wC (.int 0)) (wCons (wTup (wCons (wC (.int 0)) (wCons (wC (.int 0)) wNil))) wNil))) (wCons (wTup (wCons (wC (.int 1)) (wCons (wTup (wCons (wC (.int 0)) (wCons (wC (.int 0)) wNil))) wNil))) (wCons (wTup (wCons (wC (.int 0)) (wCons (wTup (wCons (wC (.int 0)) (wCons (wC (.int 0)) wNil))) (wCons (wC (.int 1)) wNil)))) (wCons (wTup (wCons (wTup (wCons (wC (.int 0)) (wCons (wC (.int 0)) wNil))) (wCons (wC (.int 1)) wNil))) (wCons (wTup (wCons (wTup (wCons (wC (.int 0)) wNil)) (wCons (wC (.int 1)) wNil))) (wCons (wTup (wCons (wC (.str "step")) (wCons (wC (.int 0)) wNil))) wNil))))))))))))) w_Lodd_s1)
@[simp ↓] theorem w_Lodd_s2_ap (E : DEnds) (δ : DS) : w_Lodd_s2 E δ = (wSeq (wSet 1 (mE (wOp pAddB (wVar 1) (wOfL (wLst (wCons (wTup (wCons (wC (.bool true)) wNil)) (wCons (wTup (wCons (wC (.int 0)) (wCons (wTup (wCons (wC (.int 0)) wNil)) wNil))) (wCons (wTup (wCons (wC (.int 0)) (wCons (wTup (wCons (wC (.int 0)) (wCons (wC (.int 0)) wNil))) wNil))) (wCons (wTup (wCons (wC (.int 1)) (wCons (wTup (wCons (wC (.int 0)) (wCons (wC (.int 0)) wNil))) wNil))) (wCons (wTup (wCons (wC (.int 0)) (wCons (wTup (wCons (wC (.int 0)) (wCons (wC (.int 0)) wNil))) (wCons (wC (.int 1)) wNil)))) (wCons (wTup (wCons (wTup (wCons (wC (.int 0)) (wCons (wC (.int 0)) wNil))) (wCons (wC (.int 1)) wNil))) (wCons (wTup (wCons (wTup (wCons (wC (.int 0)) wNil)) (wCons (wC (.int 1)) wNil))) (wCons (wTup (wCons (wC (.str "step")) (wCons (wC (.int 0)) wNil))) wNil))))))))))))) w_Lodd_s1) E δ := rfl
def w_Lodd : DTS := (wSeq (wSet 1 (mE (wOfL (wLst (wCons (wC .none) (wCons (wC (.bool true)) (wCons (wC (.bool false)) (wCons (wC (.int 0)) (wCons (wC (.int 1)) (wCons (wC (.int 2)) (wCons (wUn pNeg (wC (.int 1))) (wCons (wOp pPow (wC (.int 10)) (wC (.int 30))) (wCons (wC (.str "")) (wCons (wC (.str "a")) (wCons (wC (.str "0")) (wCons (wC (.str "2x3")) (wCons (wTup wNil) (wCons (wOfL (wLst wNil)) (wCons wDic (wCons (wTup (wCons (wC (.int 0)) wNil)) (wCons (wTup (wCons (wC (.int 1)) wNil)) (wCons (wTup (wCons (wC (.int 0)) (wCons (wC (.int 0)) wNil))) (wCons (wTup (wCons (wC (.int 1)) (wCons (wC (.int 1)) wNil))) wNil))))))))))))))))))))))) w_Lodd_s2)
def w_Lfar : DTS := (wRet (wCall [true, false] sp_Lone (wCons (wVar 0) (wCons (wOfL (wLst (wCons (wOp pAddB (wC (.int 1)) (wCall [true, false] sp_Ldraw (wCons (wVar 0) (wCons (wC (.int 9)) wNil)))) (wCons (wOp pAddB (wC (.int 1)) (wCall [true, false] sp_Ldraw (wCons (wVar 0) (wCons (wOp pPow (wC (.int 10)) (wC (.int 6))) wNil)))) (wCons (wOp pAddB (wC (.int 1)) (wCall [true, false] sp_Ldraw (wCons (wVar 0) (wCons (wOp pPow (wC (.int 10)) (wC (.int 12))) wNil)))) (wCons (wOp pPow (wC (.int 10)) (wC (.int 12))) wNil)))))) wNil))))
def w_Lwide : DTS := (wRet (wFn pTupOf (wCons (wOfL (wComp (iRange1 (wCons (wVar 1) wNil)) (gN 2) tT (wCall [true] sp_Lfar (wCons (wVar 0) wNil)) [2])) wNil)))
theorem ln_is_integer : ∀ cs R, sp_is_integer cs R → cs.length = 3 := by
  intro cs R h
  unfold sp_is_integer at h
  repeat (obtain ⟨_, h⟩ := h)
  subst_vars; rfl
theorem ln_Lodd : ∀ cs R, sp_Lodd cs R → cs.length = 1 := by
  intro cs R h
  unfold sp_Lodd at h
  repeat (obtain ⟨_, h⟩ := h)
  subst_vars; rfl
theorem ln_Lfar : ∀ cs R, sp_Lfar cs R → cs.length = 1 := by
  intro cs R h
  unfold sp_Lfar at h
  repeat (obtain ⟨_, h⟩ := h)
  subst_vars; rfl
theorem ln_Lwide : ∀ cs R, sp_Lwide cs R → cs.length = 2 := by
  intro cs R h
  unfold sp_Lwide at h
  repeat (obtain ⟨_, h⟩ := h)
  subst_vars; rfl
end TW
set_option Elab.async false
set_option linter.all false
set_option maxRecDepth 100000
set_option maxHeartbeats 4000000
namespace TW
open PySem PySem.Spec PyProof.Rows L2 DL
@[simp] theorem isTy_int_i (i : Int) : isTy "int" (.int i) = true := by rw [isTy, tyName]; decide
@[simp] theorem isTy_int_b (i : Bool) : isTy "int" (.bool i) = true := by rw [isTy, tyName]; decide
@[simp] theorem isTy_int_n : isTy "int" .none = false := by rw [isTy, tyName]; decide
@[simp] theorem isTy_int_s (i : Str) : isTy "int" (.str i) = false := by rw [isTy, tyName]; decide
@[simp] theorem isTy_int_l (i : List PyData) : isTy "int" (.list i) = false := by rw [isTy, tyName]; decide
@[simp] theorem isTy_int_t (i : List PyData) : isTy "int" (.tuple i) = false := by rw [isTy, tyName]; decide
@[simp] theorem isTy_int_d (i : List (PyData × PyData)) : isTy "int" (.dict i) = false := by cases i <;> (rw [isTy, tyName]; decide)
@[simp] theorem isTy_bool_i (i : Int) : isTy "bool" (.int i) = false := by rw [isTy, tyName]; decide
@[simp] theorem isTy_bool_b (i : Bool) : isTy "bool" (.bool i) = true := by rw [isTy, tyName]; decide
@[simp] theorem isTy_bool_n : isTy "bool" .none = false := by rw [isTy, tyName]; decide
@[simp] theorem isTy_bool_s (i : Str) : isTy "bool" (.str i) = false := by rw [isTy, tyName]; decide
@[simp] theorem isTy_bool_l (i : List PyData) : isTy "bool" (.list i) = false := by rw [isTy, tyName]; decide
@[simp] theorem isTy_bool_t (i : List PyData) : isTy "bool" (.tuple i) = false := by rw [isTy, tyName]; decide
@[simp] theorem isTy_bool_d (i : List (PyData × PyData)) : isTy "bool" (.dict i) = false := by cases i <;> (rw [isTy, tyName]; decide)
@[simp] theorem isTy_tuple_i (i : Int) : isTy "tuple" (.int i) = false := by rw [isTy, tyName]; decide
@[simp] theorem isTy_tuple_b (i : Bool) : isTy "tuple" (.bool i) = false := by rw [isTy, tyName]; decide
@[simp] theorem isTy_tuple_n : isTy "tuple" .none = false := by rw [isTy, tyName]; decide
@[simp] theorem isTy_tuple_s (i : Str) : isTy "tuple" (.str i) = false := by rw [isTy, tyName]; decide
@[simp] theorem isTy_tuple_l (i : List PyData) : isTy "tuple" (.list i) = false := by rw [isTy, tyName]; decide
@[simp] theorem isTy_tuple_t (i : List PyData) : isTy "tuple" (.tuple i) = true := by rw [isTy, tyName]; decide
@[simp] theorem isTy_tuple_d (i : List (PyData × PyData)) : isTy "tuple" (.dict i) = false := by cases i <;> (rw [isTy, tyName]; decide)
@[simp] theorem isTy_str_i (i : Int) : isTy "str" (.int i) = false := by rw [isTy, tyName]; decide
@[simp] theorem isTy_str_b (i : Bool) : isTy "str" (.bool i) = false := by rw [isTy, tyName]; decide
@[simp] theorem isTy_str_n : isTy "str" .none = false := by rw [isTy, tyName]; decide
@[simp] theorem isTy_str_s (i : Str) : isTy "str" (.str i) = true := by rw [isTy, tyName]; decide
@[simp] theorem isTy_str_l (i : List PyData) : isTy "str" (.list i) = false := by rw [isTy, tyName]; decide
@[simp] theorem isTy_str_t (i : List PyData) : isTy "str" (.tuple i) = false := by rw [isTy, tyName]; decide
@[simp] theorem isTy_str_d (i : List (PyData × PyData)) : isTy "str" (.dict i) = false := by cases i <;> (rw [isTy, tyName]; decide)
theorem rd_is_integer : ∀ cs R, sp_is_integer cs R → w_is_integer (endsOf cs R) (start0 3 cs) := by
  rintro _ R ⟨d, lo, hi, rfl, hR⟩
  cases d with
  | int i =>
    simp -implicitDefEqProofs -dsimp [w_is_integer]
    have hR : R (.bool (decide (lo ≤ i) && decide (i ≤ hi))) [.d (.int i), .d (.int lo), .d (.int hi)] := hR
    by_cases h : lo ≤ i
    · rw [if_pos h]
      simpa [h] using hR
    · rw [if_neg h]
      simpa [h] using hR
  | bool b => simp -implicitDefEqProofs -dsimp [w_is_integer]; exact hR
  | none => simp -implicitDefEqProofs -dsimp [w_is_integer]; exact hR
  | str z => simp -implicitDefEqProofs -dsimp [w_is_integer]; exact hR
  | list z => simp -implicitDefEqProofs -dsimp [w_is_integer]; exact hR
  | tuple z => simp -implicitDefEqProofs -dsimp [w_is_integer]; exact hR
  | dict z => simp -implicitDefEqProofs -dsimp [w_is_integer]; exact hR
theorem rd_Lodd : ∀ cs R, sp_Lodd cs R → w_Lodd (endsOf cs R) (start0 2 cs) := by
  rintro _ R ⟨a, b, c, rfl, hR⟩
  simp -implicitDefEqProofs -dsimp [w_Lodd]
  refine ⟨by simp [CPow], ?_⟩
  refine ask_of ⟨a, b, c, _, _, rfl, rfl, by simp, by simp, fun x hx => ?_⟩
  (try simp -implicitDefEqProofs -dsimp)
  exact hR x (by simpa [oddL] using hx)
theorem rd_Lfar : ∀ cs R, sp_Lfar cs R → w_Lfar (endsOf cs R) (start0 1 cs) := by
  rintro _ R ⟨a, b, c, rfl, hR⟩
  simp -implicitDefEqProofs -dsimp [w_Lfar]
  refine ask_draw (by omega) (by omega) fun u u0 u1 => ?_
  (try simp -implicitDefEqProofs -dsimp)
  refine ⟨by simp [CPow], ask_draw (by simp) (by simp) fun v v0 v1 => ?_⟩
  (try simp -implicitDefEqProofs -dsimp)
  refine ⟨by simp [CPow], ask_draw (by simp) (by simp) fun t t0 t1 => ?_⟩
  (try simp -implicitDefEqProofs -dsimp)
  refine ⟨by simp [CPow], ?_⟩
  refine ask_of ⟨a, b, c, _, _, rfl, rfl, by simp, by simp, fun x hx => ?_⟩
  (try simp -implicitDefEqProofs -dsimp)
  simp only [List.mem_cons, List.not_mem_nil, or_false] at hx
  rcases hx with rfl | rfl | rfl | rfl
  · exact hR _ (by omega) (by omega)
  · exact hR _ (by omega) (by omega)
  · exact hR _ (by omega) (by omega)
  · exact hR _ (by omega) (by omega)
theorem rd_Lwide : ∀ cs R, sp_Lwide cs R → w_Lwide (endsOf cs R) (start0 3 cs) := by
  rintro _ R ⟨a, b, c, n, rfl, h0, h1, hR⟩
  simp -implicitDefEqProofs -dsimp [w_Lwide]
  refine ⟨by omega, by omega, ?_⟩
  refine com_ints (fun i => 1 ≤ i ∧ i ≤ 10 ^ 12) (fun x hx acc K hK => ?_) fun ns hl hn => ?_
  · (try simp -implicitDefEqProofs -dsimp)
    refine ask_of ⟨a, b, c, rfl, fun i i0 i1 => ?_⟩
    (try simp -implicitDefEqProofs -dsimp)
    exact hK _ ⟨i0, i1⟩
  · (try simp -implicitDefEqProofs -dsimp)
    exact hR ns (by simpa [nums] using hl) hn
end TW
set_option Elab.async false
set_option linter.all false
set_option maxRecDepth 100000
set_option maxHeartbeats 4000000
namespace TW
open PySem PySem.Spec PyProof.Rows L2 DL
def fst2 (f : Nat) (a b : List Int) : List Int := if f = 0 then a else b
end TW
set_option Elab.async false
set_option linter.all false
set_option maxRecDepth 100000
set_option maxHeartbeats 4000000
namespace TW
open PySem PySem.Spec PyProof.Rows L2 DL
theorem PB.swap {a b bx : List Int} (h : PB a b bx) : PB b a bx := ⟨h.lb, h.la, h.l0, h.l1, h.pb, h.pa, h.px⟩
section
variable {a b bx : List Int} {E : DEnds} {w : Str} {ns : List Int}
def Ans (E : DEnds) (a b bx : List Int) (w : Str) (ns : List Int) (P : Prop) : Prop := ∀ c : Bool, (c = true ↔ P) → ∀ c3 c4 c5 c6 c7, E.rt (.bool c) [.d (prD a b), .d (tI bx), .d (.tuple (.str w :: lI ns)), c3, c4, c5, c6, c7]
theorem Ans.no {P : Prop} (h : Ans E a b bx w ns P) (q : ¬ P) : ∀ c3 c4 c5 c6 c7, E.rt (.bool false) [.d (prD a b), .d (tI bx), .d (.tuple (.str w :: lI ns)), c3, c4, c5, c6, c7] := h false (by simpa using q)
theorem Ans.of {P Q : Prop} (h : Ans E a b bx w ns P) (q : Q ↔ P) : Ans E a b bx w ns Q := fun c hc => h c (hc.trans q)
end
end TW
set_option Elab.async false
set_option linter.all false
set_option maxRecDepth 100000
set_option maxHeartbeats 4000000
namespace TW
open PySem PySem.Spec PyProof.Rows L2 DL
end TW
set_option Elab.async false
set_option linter.all false
set_option maxRecDepth 100000
set_option maxHeartbeats 4000000
namespace TW
open PySem PySem.Spec PyProof.Rows L2 DL
structure Pq (n : Nat) (m : Int) (p q : List Int) : Prop where
  lp : p.length = n
  lq : q.length = n
  n0 : 0 < n
  n1 : n ≤ 4
  pp : ∀ x ∈ p, 1 ≤ x ∧ x ≤ m
  pq : ∀ x ∈ q, 1 ≤ x ∧ x ≤ m
structure Bo (n : Nat) (p q bx : List Int) : Prop where
  l : bx.length = n
  b : ∀ x ∈ bx, 1 ≤ x ∧ x ≤ 10 ^ 13
  f : Fill p q bx
end TW
set_option Elab.async false
set_option linter.all false
set_option maxRecDepth 100000
set_option maxHeartbeats 4000000
namespace TW
open PySem PySem.Spec PyProof.Rows L2 DL
end TW
set_option Elab.async false
set_option linter.all false
set_option maxRecDepth 100000
set_option maxHeartbeats 4000000
namespace TW
open PySem PySem.Spec PyProof.Rows L2 DL
end TW
set_option Elab.async false
set_option linter.all false
set_option maxRecDepth 100000
set_option maxHeartbeats 4000000
namespace TW
open PySem PySem.Spec PyProof.Rows L2 DL
def encE : Option (PyData × Str) → PyData
  | none => .none
  | some (a, s) => .tuple [a, .str s]
@[simp] theorem isNone_encE (o : Option (PyData × Str)) : isNone (encE o) = o.isNone := by cases o <;> rfl
def badS (ds : List PyData) (i : Nat) : Bool := !wholeB 1 (10 ^ 12) (gd ds i)
def sidesE : PyData → Option (PyData × Str)
  | .tuple ds => if 1 ≤ ds.length ∧ ds.length ≤ 4 then ((List.range ds.length).find? (badS ds)).map fun (i : Nat) => (.int (i : Int), "side") else some (.none, "sides")
  | _ => some (.none, "sides")
def lenD : PyData → Nat
  | .tuple ds => ds.length
  | _ => 0
def badK (ds : List PyData) (k : Nat) : Bool := (sidesE (gd ds k)).isSome || decide (lenD (gd ds k) ≠ lenD (gd ds 0))
def kindsE : PyData → Option (PyData × Str)
  | .tuple ds => if 1 ≤ ds.length ∧ ds.length ≤ 4 then ((List.range ds.length).find? (badK ds)).map fun (k : Nat) => (.int (k : Int), if (sidesE (gd ds k)).isSome = true then "sides" else "axes") else some (.none, "kinds")
  | _ => some (.none, "kinds")
def pairE (v : PyData) : Option (PyData × Str) := match kindsE v with
  | none => if lenD v = 2 then none else some (.none, "pair")
  | some e => some e
def sp_sides_error : DSp := fun cs R => ∃ v, cs = [.d v] ∧ R (encE (sidesE v)) [.d v]
def sp_kinds_error : DSp := fun cs R => ∃ v, cs = [.d v] ∧ R (encE (kindsE v)) [.d v]
def sp_pair_error : DSp := fun cs R => ∃ v, cs = [.d v] ∧ R (encE (pairE v)) [.d v]
def w_sides_error_1 : DTS := (wRet (wTup (wCons (wVar 1) (wCons (wC (.str "side")) wNil))))
def w_sides_error_2 : DTS := (wIf (wNot (wB (wCall [] sp_is_integer (wCons (wVar 2) (wCons (wC (.int 1)) (wCons (wC (.int 1000000000000)) wNil)))))) w_sides_error_1 wNext)
def w_sides_error_3 : DTS := (wRet (wTup (wCons (wC .none) (wCons (wC (.str "sides")) wNil))))
def w_sides_error_t1 : DTS := (wSeq (wFor (iEnumD (wCons (wVar 0) wNil)) (gT (gsCons (gN 1) (gsCons (gN 2) gsNil))) w_sides_error_2) (wRet (wC .none)))
def w_sides_error : DTS := (wSeq (wIf (wOr (wNot (wB (wIsi "tuple" (wVar 0)))) (wNot (wB (wChain pLe pLe (wC (.int 1)) (wFn pLen (wCons (wVar 0) wNil)) (wC (.int 4)))))) w_sides_error_3 wNext) w_sides_error_t1)
def w_kinds_error_1 : DTS := (wRet (wTup (wCons (wVar 1) (wCons (wC (.str "axes")) wNil))))
def w_kinds_error_2 : DTS := (wRet (wTup (wCons (wVar 1) (wCons (wC (.str "sides")) wNil))))
def w_kinds_error_t1 : DTS := (wIf (wB (wOp pNe (wFn pLen (wCons (wVar 2) wNil)) (wFn pLen (wCons (wOp pIx (wVar 0) (wC (.int 0))) wNil)))) w_kinds_error_1 wNext)
def w_kinds_error_4 : DTS := (wSeq (wIf (wB (wOp pIsNot (wCall [] sp_sides_error (wCons (wVar 2) wNil)) (wC .none))) w_kinds_error_2 wNext) w_kinds_error_t1)
def w_kinds_error_5 : DTS := (wRet (wTup (wCons (wC .none) (wCons (wC (.str "kinds")) wNil))))
def w_kinds_error_t2 : DTS := (wSeq (wFor (iEnumD (wCons (wVar 0) wNil)) (gT (gsCons (gN 1) (gsCons (gN 2) gsNil))) w_kinds_error_4) (wRet (wC .none)))
def w_kinds_error : DTS := (wSeq (wIf (wOr (wNot (wB (wIsi "tuple" (wVar 0)))) (wNot (wB (wChain pLe pLe (wC (.int 1)) (wFn pLen (wCons (wVar 0) wNil)) (wC (.int 4)))))) w_kinds_error_5 wNext) w_kinds_error_t2)
def w_pair_error_1 : DTS := (wRet (wTup (wCons (wC .none) (wCons (wC (.str "pair")) wNil))))
def w_pair_error_s1 : DTS := (wSeq (wIf (wAnd (wB (wOp pIs (wVar 1) (wC .none))) (wB (wOp pNe (wFn pLen (wCons (wVar 0) wNil)) (wC (.int 2))))) w_pair_error_1 wNext) (wRet (wVar 1)))
@[simp ↓] theorem w_pair_error_s1_ap (E : DEnds) (δ : DS) : w_pair_error_s1 E δ = (wSeq (wIf (wAnd (wB (wOp pIs (wVar 1) (wC .none))) (wB (wOp pNe (wFn pLen (wCons (wVar 0) wNil)) (wC (.int 2))))) w_pair_error_1 wNext) (wRet (wVar 1))) E δ := rfl
def w_pair_error : DTS := (wSeq (wSet 1 (mE (wCall [] sp_kinds_error (wCons (wVar 0) wNil)))) w_pair_error_s1)
theorem ln_sides_error : ∀ cs R, sp_sides_error cs R → cs.length = 1 := by
  intro cs R h
  unfold sp_sides_error at h
  repeat (obtain ⟨_, h⟩ := h)
  subst_vars; rfl
theorem ln_kinds_error : ∀ cs R, sp_kinds_error cs R → cs.length = 1 := by
  intro cs R h
  unfold sp_kinds_error at h
  repeat (obtain ⟨_, h⟩ := h)
  subst_vars; rfl
theorem ln_pair_error : ∀ cs R, sp_pair_error cs R → cs.length = 1 := by
  intro cs R h
  unfold sp_pair_error at h
  repeat (obtain ⟨_, h⟩ := h)
  subst_vars; rfl
end TW
set_option Elab.async false
set_option linter.all false
set_option maxRecDepth 100000
set_option maxHeartbeats 4000000
namespace TW
open PySem PySem.Spec PyProof.Rows L2 DL
theorem tuple_of {v : PyData} (hv : ¬ isTy "tuple" v = false) : ∃ ds, v = .tuple ds := by
  cases v <;> first | exact ⟨_, rfl⟩ | exact absurd (by simp) hv
theorem sidesE_no {v : PyData} (hv : isTy "tuple" v = false) : sidesE v = some (PyData.none, ("sides" : Str)) := by
  cases v <;> first | rfl | (simp at hv; done)
theorem kindsE_no {v : PyData} (hv : isTy "tuple" v = false) : kindsE v = some (PyData.none, ("kinds" : Str)) := by
  cases v <;> first | rfl | (simp at hv; done)
theorem sidesE_tuple {v : PyData} (h : sidesE v = none) : ∃ ds, v = .tuple ds ∧ 1 ≤ ds.length ∧ ds.length ≤ 4 := by
  cases v with
  | tuple ds =>
    simp only [sidesE] at h
    split at h
    · rename_i q; exact ⟨ds, rfl, q⟩
    · cases h
  | _ => cases h
theorem kindsE_tuple {v : PyData} (h : kindsE v = none) : ∃ ds, v = .tuple ds ∧ 1 ≤ ds.length ∧ ds.length ≤ 4 := by
  cases v with
  | tuple ds =>
    simp only [kindsE] at h
    split at h
    · rename_i q; exact ⟨ds, rfl, q⟩
    · cases h
  | _ => cases h
theorem rd_sides_error : ∀ cs R, sp_sides_error cs R → w_sides_error (endsOf cs R) (start0 3 cs) := by
  rintro _ R ⟨v, rfl, hR⟩
  by_cases hv : isTy "tuple" v = false
  · rw [sidesE_no hv] at hR
    simp -implicitDefEqProofs -dsimp [w_sides_error, hv, w_sides_error_3]
    exact hR
  · obtain ⟨ds, rfl⟩ := tuple_of hv
    simp only [sidesE] at hR
    simp -implicitDefEqProofs -dsimp [w_sides_error]
    have no : ¬ (1 ≤ ds.length ∧ ds.length ≤ 4) → w_sides_error_3 { nx := w_sides_error_t1 (endsOf [.d (.tuple ds)] R), rt := (endsOf [.d (.tuple ds)] R).rt, bk := (endsOf [.d (.tuple ds)] R).bk, ct := (endsOf [.d (.tuple ds)] R).ct } [.d (.tuple ds), .em, .em] := fun h => by
      rw [if_neg h] at hR
      simp -implicitDefEqProofs -dsimp [w_sides_error_3]
      exact hR
    split
    · split
      · exact no (by omega)
      · rw [if_pos (by omega)] at hR
        simp -implicitDefEqProofs -dsimp [w_sides_error_t1]
        rw [numbered_gd]
        refine for_find (List.range ds.length) _ rfl (fun δ => ∃ c1 c2, δ = [.d (.tuple ds), c1, c2]) (badS ds) (fun i => .tuple [.int (i : Int), .str "side"]) ⟨_, _, rfl⟩ ?_ ?_ ?_
        · rintro h δ ⟨c1, c2, rfl⟩
          rw [h] at hR
          (try simp -implicitDefEqProofs -dsimp)
          exact hR
        · rintro i h δ ⟨c1, c2, rfl⟩
          rw [h] at hR
          (try simp -implicitDefEqProofs -dsimp)
          exact hR
        · rintro pre i post δ he hp ⟨c1, c2, rfl⟩ K B T hK hT
          simp -implicitDefEqProofs -dsimp [w_sides_error_2]
          refine ask_of ⟨_, _, _, rfl, ?_⟩
          (try simp -implicitDefEqProofs -dsimp)
          by_cases z : wholeB 1 1000000000000 (gd ds i) = true
          · rw [if_pos z]
            exact hK (by unfold badS; rw [show (10 : Int) ^ 12 = 1000000000000 by decide, z]; rfl) _ ⟨_, _, rfl⟩
          · rw [if_neg z]
            simp -implicitDefEqProofs -dsimp [w_sides_error_1]
            exact hT (by unfold badS; rw [show (10 : Int) ^ 12 = 1000000000000 by decide]; simpa using z) _ ⟨_, _, rfl⟩
    · exact no (by omega)
theorem kinds_len {ds : List PyData} {pre post : List Nat} {k : Nat} (he : List.range ds.length = pre ++ k :: post) (hp : ∀ x ∈ pre, badK ds x = false) (hk : (sidesE (gd ds k)).isSome = false) : k < ds.length ∧ 0 < ds.length ∧ (∃ xs, gd ds k = .tuple xs) ∧ ∃ ys, gd ds 0 = .tuple ys := by
  have hlt : k < ds.length := List.mem_range.mp (by rw [he]; simp)
  refine ⟨hlt, by omega, ?_, ?_⟩
  · obtain ⟨xs, h, _⟩ := sidesE_tuple (v := gd ds k) (by simpa using hk)
    exact ⟨xs, h⟩
  · by_cases z : k = 0
    · subst z
      obtain ⟨xs, h, _⟩ := sidesE_tuple (v := gd ds 0) (by simpa using hk)
      exact ⟨xs, h⟩
    · have h0 : 0 ∈ pre := by
        have hpre : pre = List.range k := by
          have e1 : pre.length = k := by
            have := congrArg (fun l => l[pre.length]?) he
            simp only [List.getElem?_append_right (Nat.le_refl _), Nat.sub_self, List.getElem?_cons_zero] at this
            rw [List.getElem?_eq_some_iff] at this
            obtain ⟨h, e⟩ := this
            simpa using e
          have : pre = (List.range ds.length).take pre.length := by rw [he]; simp
          rw [this, List.take_range]
          congr 1
          omega
        rw [hpre]; exact List.mem_range.mpr (by omega)
      have := hp 0 h0
      simp only [badK, Bool.or_eq_false_iff] at this
      obtain ⟨xs, h, _⟩ := sidesE_tuple (v := gd ds 0) (by simpa using this.1)
      exact ⟨xs, h⟩
theorem rd_kinds_error : ∀ cs R, sp_kinds_error cs R → w_kinds_error (endsOf cs R) (start0 3 cs) := by
  rintro _ R ⟨v, rfl, hR⟩
  by_cases hv : isTy "tuple" v = false
  · rw [kindsE_no hv] at hR
    simp -implicitDefEqProofs -dsimp [w_kinds_error, hv, w_kinds_error_5]
    exact hR
  · obtain ⟨ds, rfl⟩ := tuple_of hv
    simp only [kindsE] at hR
    simp -implicitDefEqProofs -dsimp [w_kinds_error]
    have no : ¬ (1 ≤ ds.length ∧ ds.length ≤ 4) → w_kinds_error_5 { nx := w_kinds_error_t2 (endsOf [.d (.tuple ds)] R), rt := (endsOf [.d (.tuple ds)] R).rt, bk := (endsOf [.d (.tuple ds)] R).bk, ct := (endsOf [.d (.tuple ds)] R).ct } [.d (.tuple ds), .em, .em] := fun h => by
      rw [if_neg h] at hR
      simp -implicitDefEqProofs -dsimp [w_kinds_error_5]
      exact hR
    split
    · split
      · exact no (by omega)
      · rw [if_pos (by omega)] at hR
        simp -implicitDefEqProofs -dsimp [w_kinds_error_t2]
        rw [numbered_gd]
        refine for_find (List.range ds.length) _ rfl (fun δ => ∃ c1 c2, δ = [.d (.tuple ds), c1, c2]) (badK ds) (fun (k : Nat) => .tuple [.int (k : Int), .str (if (sidesE (gd ds k)).isSome = true then "sides" else "axes")]) ⟨_, _, rfl⟩ ?_ ?_ ?_
        · rintro h δ ⟨c1, c2, rfl⟩
          rw [h] at hR
          (try simp -implicitDefEqProofs -dsimp)
          exact hR
        · rintro i h δ ⟨c1, c2, rfl⟩
          rw [h] at hR
          (try simp -implicitDefEqProofs -dsimp)
          exact hR
        · rintro pre i post δ he hp ⟨c1, c2, rfl⟩ K B T hK hT
          simp -implicitDefEqProofs -dsimp [w_kinds_error_4]
          refine ask_of ⟨_, rfl, ?_⟩
          (try simp -implicitDefEqProofs -dsimp)
          by_cases z : (sidesE (gd ds i)).isSome = true
          · have z' : (sidesE (gd ds i)).isNone = false := by simpa using z
            rw [if_pos z]
            simp -implicitDefEqProofs -dsimp [w_kinds_error_2]
            have := hT (by simp [badK, z]) [.d (.tuple ds), .d (.int (i : Int)), .d (gd ds i)] ⟨_, _, rfl⟩
            rw [if_pos z] at this
            exact this
          · have z1 : (sidesE (gd ds i)).isSome = false := by simpa using z
            have z' : (sidesE (gd ds i)).isNone = true := by simpa using z1
            obtain ⟨hlt, h0, ⟨xs, ex⟩, ys, ey⟩ := kinds_len he hp z1
            have hb : badK ds i = decide (xs.length ≠ ys.length) := by unfold badK; rw [z1, ex, ey]; rfl
            rw [if_neg z]
            simp -implicitDefEqProofs -dsimp [w_kinds_error_t1, ex, gd_at h0, ey]
            split
            · rename_i q
              exact hK (by rw [hb]; simp only [decide_eq_false_iff_not]; omega) _ ⟨_, _, rfl⟩
            · rename_i q
              simp -implicitDefEqProofs -dsimp [w_kinds_error_1]
              have := hT (by rw [hb]; simp only [decide_eq_true_eq]; omega) [.d (.tuple ds), .d (.int (i : Int)), .d (gd ds i)] ⟨_, _, rfl⟩
              rw [ex] at this
              simp only [ex] at z1
              rw [if_neg (by simp [z1])] at this
              exact this
    · exact no (by omega)
theorem rd_pair_error : ∀ cs R, sp_pair_error cs R → w_pair_error (endsOf cs R) (start0 2 cs) := by
  rintro _ R ⟨v, rfl, hR⟩
  simp -implicitDefEqProofs -dsimp [w_pair_error]
  refine ask_of ⟨_, rfl, ?_⟩
  (try simp -implicitDefEqProofs -dsimp)
  unfold pairE at hR
  cases h : kindsE v with
  | some e => rw [h] at hR; simp -implicitDefEqProofs -dsimp; exact hR
  | none =>
    rw [h] at hR
    obtain ⟨ds, rfl, _⟩ := kindsE_tuple h
    (try simp -implicitDefEqProofs -dsimp)
    split
    · rename_i q
      have q2 : lenD (.tuple ds) = 2 := by simp only [lenD]; omega
      simp only [if_pos q2] at hR
      exact hR
    · rename_i q
      have q2 : ¬ lenD (.tuple ds) = 2 := by simp only [lenD]; omega
      simp only [if_neg q2] at hR
      simp -implicitDefEqProofs -dsimp [w_pair_error_1]
      exact hR
end TW
set_option Elab.async false
set_option linter.all false
set_option maxRecDepth 100000
set_option maxHeartbeats 4000000
namespace TW
open PySem PySem.Spec PyProof.Rows L2 DL
end TW
set_option Elab.async false
set_option linter.all false
set_option maxRecDepth 100000
set_option maxHeartbeats 4000000
namespace TW
open PySem PySem.Spec PyProof.Rows L2 DL
end TW
set_option Elab.async false
set_option linter.all false
set_option maxRecDepth 100000
set_option maxHeartbeats 4000000
namespace TW
open PySem PySem.Spec PyProof.Rows L2 DL
structure Ok (n : Nat) (c d : List Int) : Prop where
  p1 : ∀ i, i < n → 1 ≤ gi c i
  p2 : ∀ i, i < n → 1 ≤ gi d i
end TW
set_option Elab.async false
set_option linter.all false
set_option maxRecDepth 100000
set_option maxHeartbeats 4000000
namespace TW
open PySem PySem.Spec PyProof.Rows L2 DL
def sortA (L : List (List Int)) : List (List Int) := L.mergeSort fun p q => decide (p ≤ q)
def atomL (a b : List Int) : List (List Int) := (if restsF b a = [] then [] else [a]) ++ (if restsF a b = [] then [] else [b])
def atomsF (a b : List Int) : List (List Int) := if a = b then [a] else sortA (atomL a b)
def sp_atoms : DSp := fun cs R => ∃ a b, cs = [.d (prD a b)] ∧ b.length = a.length ∧ 0 < a.length ∧ a.length ≤ 1000 ∧ (∀ x ∈ a, 1 ≤ x ∧ x < 2 ^ 64) ∧ (∀ x ∈ b, 1 ≤ x ∧ x < 2 ^ 64) ∧ R (.tuple (lT (atomsF a b))) cs
def w_atoms_t1 : DTS := (wRet (wFn pTupOf (wCons (wFn pSorted (wCons (wOfL (wComp (iSeq (wTup (wCons (wTup (wCons (wVar 1) (wCons (wVar 2) wNil))) (wCons (wTup (wCons (wVar 2) (wCons (wVar 1) wNil))) wNil)))) (gT (gsCons (gN 3) (gsCons (gN 4) gsNil))) (wB (wOp pNe (wCall [] sp_rests (wCons (wVar 4) (wCons (wVar 3) wNil))) (wOfL (wLst wNil)))) (wVar 3) [3, 4])) wNil)) wNil)))
def w_atoms_s1 : DTS := (wSeq (wIf (wB (wOp pEq (wVar 1) (wVar 2))) (wRet (wTup (wCons (wVar 1) wNil))) wNext) w_atoms_t1)
@[simp ↓] theorem w_atoms_s1_ap (E : DEnds) (δ : DS) : w_atoms_s1 E δ = (wSeq (wIf (wB (wOp pEq (wVar 1) (wVar 2))) (wRet (wTup (wCons (wVar 1) wNil))) wNext) w_atoms_t1) E δ := rfl
def w_atoms : DTS := (wSeq (wAsgG (wVar 0) (gT (gsCons (gN 1) (gsCons (gN 2) gsNil)))) w_atoms_s1)
theorem ln_atoms : ∀ cs R, sp_atoms cs R → cs.length = 1 := by
  intro cs R h
  unfold sp_atoms at h
  repeat (obtain ⟨_, h⟩ := h)
  subst_vars; rfl
end TW
set_option Elab.async false
set_option linter.all false
set_option maxRecDepth 100000
set_option maxHeartbeats 4000000
namespace TW
open PySem PySem.Spec PyProof.Rows L2 DL
theorem le_tI (p q : List Int) : leD (tI p) (tI q) = decide (p ≤ q) := by
  show (!W.dataLt (tI q) (tI p)) = _
  unfold tI
  rw [W.dataLt_tuple]
  show (!W.rowLt (lI q) (lI p)) = _
  unfold lI
  rw [W.dataLt_ints]
  by_cases h : q < p
  · have h' : ¬ p ≤ q := fun r => List.not_lt.mpr r h
    simp [h, h']
  · have h' : p ≤ q := List.not_lt.mp h
    simp [h, h']
theorem sort_tI (L : List (List Int)) : sortD (lT L) = lT (sortA L) := by
  unfold sortD sortA lT
  exact (List.map_mergeSort fun a _ b _ => (le_tI a b).symm).symm
theorem srt_ok {L : List (List Int)} (h : ∀ p ∈ L, p ≠ []) : W.AllAlike (lT L) ∧ W.Sortable (lT L) ∧ ∀ d ∈ lT L, d.depth ≤ 50 := by
  refine ⟨W.AllAlike.of fun p q => ?_, .inl fun d hd => ?_, fun d hd => ?_⟩
  · show W.alike (.tuple (p.map .int)) (.tuple (q.map .int)) = true
    simp [W.alike, W.alike_ints]
  · obtain ⟨p, hp, rfl⟩ := List.mem_map.mp hd
    cases p with
    | nil => exact absurd rfl (h _ hp)
    | cons x r => exact ⟨_, _, rfl⟩
  · obtain ⟨p, hp, rfl⟩ := List.mem_map.mp hd
    have := W.depth_ints p
    show PyData.depth (.tuple (p.map .int)) ≤ 50
    simp [PyData.depth, this]
theorem rd_atoms : ∀ cs R, sp_atoms cs R → w_atoms (endsOf cs R) (start0 5 cs) := by
  rintro _ R ⟨a, b, rfl, hl, l0, l1, ha, hb, hR⟩
  have sha : Shp false 1 (1000 * (64 + 9 + 2) + 4) (tI a) := Shp.tuple (shp_ints (k := 64) l1 fun x hm => log_le (by have := ha x hm; omega) (by have := ha x hm; omega))
  have shb : Shp false 1 (1000 * (64 + 9 + 2) + 4) (tI b) := Shp.tuple (shp_ints (k := 64) (by omega) fun x hm => log_le (by have := hb x hm; omega) (by have := hb x hm; omega))
  simp -implicitDefEqProofs -dsimp [w_atoms]
  refine ⟨sha.shaped, shb.shaped, ?_⟩
  rw [eqvAll_ints]
  unfold atomsF at hR
  by_cases e : a = b
  · rw [if_pos e] at hR
    subst e
    (try simp -implicitDefEqProofs -dsimp)
    exact hR
  · rw [if_neg e] at hR
    simp -implicitDefEqProofs -dsimp [e, w_atoms_t1, com_cons, com_nil]
    refine ask_of (sp := sp_rests) ⟨b, a, rfl, by omega, fun x hm => (hb x hm).1, ?_⟩
    simp -implicitDefEqProofs -dsimp [shaped_nats, shaped_nil, eqv_nats]
    have na : a ≠ [] := by rintro rfl; cases l0
    have nb : b ≠ [] := by rintro rfl; simp at hl; omega
    unfold atomL at hR
    by_cases ea : restsF b a = []
    · rw [if_pos ea] at hR ⊢
      simp -implicitDefEqProofs -dsimp [com_cons, com_nil]
      refine ask_of (sp := sp_rests) ⟨a, b, rfl, by omega, fun x hm => (ha x hm).1, ?_⟩
      simp -implicitDefEqProofs -dsimp [shaped_nats, shaped_nil, eqv_nats]
      by_cases eb : restsF a b = []
      · rw [if_pos eb] at hR ⊢
        (try simp -implicitDefEqProofs -dsimp)
        have o := srt_ok (L := []) (by simp)
        refine ⟨o.1, o.2.1, by simp, o.2.2, ?_⟩
        rw [show sortD [] = lT (sortA []) from sort_tI []]
        (try simp -implicitDefEqProofs -dsimp)
        exact hR
      · rw [if_neg eb] at hR ⊢
        (try simp -implicitDefEqProofs -dsimp)
        have o := srt_ok (L := [b]) (by simpa using nb)
        refine ⟨o.1, o.2.1, by simp, o.2.2, ?_⟩
        rw [show sortD [tI b] = lT (sortA [b]) from sort_tI [b]]
        (try simp -implicitDefEqProofs -dsimp)
        exact hR
    · rw [if_neg ea] at hR ⊢
      simp -implicitDefEqProofs -dsimp [com_cons, com_nil]
      refine ask_of (sp := sp_rests) ⟨a, b, rfl, by omega, fun x hm => (ha x hm).1, ?_⟩
      simp -implicitDefEqProofs -dsimp [shaped_nats, shaped_nil, eqv_nats]
      by_cases eb : restsF a b = []
      · rw [if_pos eb] at hR ⊢
        (try simp -implicitDefEqProofs -dsimp)
        have o := srt_ok (L := [a]) (by simpa using na)
        refine ⟨o.1, o.2.1, by simp, o.2.2, ?_⟩
        rw [show sortD [tI a] = lT (sortA [a]) from sort_tI [a]]
        (try simp -implicitDefEqProofs -dsimp)
        exact hR
      · rw [if_neg eb] at hR ⊢
        (try simp -implicitDefEqProofs -dsimp)
        have o := srt_ok (L := [a, b]) (by simp [na, nb])
        refine ⟨o.1, o.2.1, by simp, o.2.2, ?_⟩
        rw [show sortD [tI a, tI b] = lT (sortA [a, b]) from sort_tI [a, b]]
        (try simp -implicitDefEqProofs -dsimp)
        exact hR
end TW
set_option Elab.async false
set_option linter.all false
set_option maxRecDepth 100000
set_option maxHeartbeats 4000000
namespace TW
open PySem PySem.NumText DL
def dg (m : Nat) : List Nat := (Nat.toDigits 10 m).map Char.toNat
theorem sign_digit : ∀ d : Nat, d < 10 → (Nat.digitChar d).toNat = 48 + d := by decide
theorem dg_small {m : Nat} (h : m < 10) : dg m = [48 + m] := by
  rw [dg, Nat.toDigits_of_lt_base h, List.map_singleton, sign_digit m h]
theorem dg_more {m : Nat} (h : 10 ≤ m) : dg m = dg (m / 10) ++ [48 + m % 10] := by
  have last : m % 10 < 10 := Nat.mod_lt m (by decide)
  have two := Nat.toDigits_append_toDigits (b := 10) (n := m / 10) (d := m % 10) (by decide) (by omega) last
  rw [Nat.div_add_mod] at two
  rw [dg, ← two, List.map_append, Nat.toDigits_of_lt_base last, List.map_singleton, sign_digit _ last, dg]
theorem dg_ind {P : Nat → Prop} (small : ∀ m, m < 10 → P m) (more : ∀ m, 10 ≤ m → P (m / 10) → P m) (m : Nat) : P m := by
  induction m using Nat.strongRecOn with
  | _ m ih => exact (Nat.lt_or_ge m 10).elim (small m) fun h => more m h (ih _ (Nat.div_lt_self (by omega) (by decide)))
theorem dg_all : ∀ m : Nat, AllDigits (dg m) := dg_ind
  (fun m h c hc => by rw [dg_small h, List.mem_singleton] at hc; omega)
  fun m h ih c hc => by
    rw [dg_more h, List.mem_append, List.mem_singleton] at hc
    rcases hc with hc | hc
    · exact ih c hc
    · have := Nat.mod_lt m (show 0 < 10 by decide); omega
theorem dg_head : ∀ m : Nat, 1 ≤ m → ∃ c r, dg m = c :: r ∧ 49 ≤ c := dg_ind
  (fun m h p => ⟨48 + m, [], dg_small h, by omega⟩)
  fun m h ih p => by
    obtain ⟨c, r, e, hc⟩ := ih (by omega)
    exact ⟨c, r ++ [48 + m % 10], by rw [dg_more h, e, List.cons_append], hc⟩
theorem dg_val (m : Nat) : digitsVal (dg m) = m := PySem.W.KIN.val_back m
theorem dg_len : ∀ (k m : Nat), m < 10 ^ k → (dg m).length ≤ max 1 k
  | 0, m, h => by rw [dg_small (by omega)]; simp
  | k + 1, m, h => by
    rcases Nat.lt_or_ge m 10 with s | s
    · rw [dg_small s]; simp
    · have := dg_len k (m / 10) (by rw [Nat.pow_succ] at h; omega)
      rw [dg_more s, List.length_append, List.length_singleton]
      rcases Nat.eq_zero_or_pos k with z | z
      · subst z; exact absurd (show m < 10 from h) (by omega)
      · omega
theorem text_num {n : Int} (h : 0 ≤ n) : Str.ofString (toString n) = ⟨(dg n.toNat).toArray⟩ := by
  obtain ⟨m, rfl⟩ := Int.eq_ofNat_of_zero_le h
  have := PySem.W.KIN.signs_num m
  cases e : Str.ofString (toString ((m : Nat) : Int)) with
  | mk cps => rw [e] at this; rw [Int.toNat_natCast]; congr 1; rw [← Array.toArray_toList (xs := cps), this]; rfl
theorem one_digit {c : Nat} (h : 48 ≤ c ∧ c ≤ 57) : intText? ⟨#[c]⟩ = some ((c - 48 : Nat) : Int) := by
  have a : AllDigits ((⟨#[c]⟩ : Str).cps.toList) := fun d hd => by simp at hd; omega
  have := intText_digits a (by simp) (by simp [Str.length])
  rw [this]
  simp [digitsVal]
def glue (c : Nat) : List (List Nat) → List Nat
  | [] => []
  | [a] => a
  | a :: b :: r => a ++ c :: glue c (b :: r)
def sx (ns : List Int) : List Nat := glue 120 (ns.map fun n => dg n.toNat)
def kx (kss : List (List Int)) : List Nat := glue 32 (kss.map sx)
theorem glue_cons (c : Nat) (a b : List Nat) (r : List (List Nat)) : glue c (a :: b :: r) = a ++ c :: glue c (b :: r) := rfl
def S (l : List Nat) : Str := ⟨l.toArray⟩
theorem S_app (l m : List Nat) : S l ++ S m = S (l ++ m) := by
  show (⟨l.toArray ++ m.toArray⟩ : Str) = ⟨(l ++ m).toArray⟩
  rw [List.append_toArray]
theorem join_S (c : Nat) : ∀ ls : List (List Nat), Str.join (S [c]) (ls.map S) = S (glue c ls)
  | [] => rfl
  | [a] => rfl
  | a :: b :: r => by
    have ih := join_S c (b :: r)
    rw [List.map_cons] at ih
    show S a ++ S [c] ++ Str.join (S [c]) (S b :: r.map S) = _
    rw [ih, S_app, S_app, glue_cons, List.append_assoc]
    rfl
theorem glue_len {c B : Nat} : ∀ {ls : List (List Nat)}, (∀ l ∈ ls, l.length ≤ B) → (glue c ls).length ≤ ls.length * (B + 1)
  | [], _ => by simp [glue]
  | [a], h => by have := h a (by simp); simp [glue]; omega
  | a :: b :: r, h => by
    have h1 := h a (by simp)
    have h2 := glue_len (c := c) (ls := b :: r) fun l m => h l (List.mem_cons_of_mem _ m)
    have e : (a :: b :: r).length * (B + 1) = (b :: r).length * (B + 1) + (B + 1) := Nat.succ_mul _ _
    rw [glue_cons, List.length_append, List.length_cons, e]
    omega
theorem sum_len {B : Nat} : ∀ {ls : List (List Nat)}, (∀ l ∈ ls, l.length ≤ B) → ((ls.map S).map (·.length)).sum ≤ ls.length * B
  | [], _ => by simp
  | a :: r, h => by
    have h1 := h a (by simp)
    have h2 := sum_len (ls := r) fun l m => h l (by simp [m])
    have h3 : (S a).length = a.length := by simp [S, Str.length]
    rw [List.map_cons, List.map_cons, List.sum_cons, h3, List.length_cons, Nat.succ_mul]
    omega
theorem len_S {l : List Nat} : (⟨l.toArray⟩ : Str).length = l.length := by simp [Str.length]
def nS (n : Int) : Str := S (dg n.toNat)
theorem text_rep {n : Int} (h : 0 ≤ n) : Str.ofString n.repr = nS n := by have := text_num h; simpa [nS, S] using this
theorem fig_mem (c : Nat) : (c ∈ (Str.ofString "0123456789").cps.toList) = (48 ≤ c ∧ c ≤ 57) := by
  have e : (Str.ofString "0123456789").cps.toList = [48, 49, 50, 51, 52, 53, 54, 55, 56, 57] := by decide
  rw [e]
  exact propext (by simp; omega)
end TW
set_option Elab.async false
set_option linter.all false
set_option maxRecDepth 100000
set_option maxHeartbeats 4000000
namespace TW
open PySem PySem.Spec PyProof.Rows L2 DL
def tS (l : List Nat) : PyData := .str ⟨l.toArray⟩
def NumOk (n : Int) : Prop := 1 ≤ n ∧ n ≤ 10 ^ 12
def ends (l : List Nat) : Prop := ∀ c ∈ l.head?, c < 48 ∨ 57 < c
def sp_sides_text : DSp := fun cs R => ∃ ns : List Int, cs = [.d (tI ns)] ∧ ns.length ≤ 8 ∧ (∀ n ∈ ns, NumOk n) ∧ R (tS (sx ns)) cs
def sp_kinds_text : DSp := fun cs R => ∃ kss : List (List Int), cs = [.d (.tuple (kss.map tI))] ∧ kss.length ≤ 8 ∧ (∀ ns ∈ kss, ns.length ≤ 8 ∧ ∀ n ∈ ns, NumOk n) ∧ R (tS (kx kss)) cs
def w_sides_text : DTS := (wRet (wJoinC "x" (wOfL (wComp (iSeq (wVar 0)) (gN 1) tT (wFn pStrB (wCons (wVar 1) wNil)) [1]))))
def w_kinds_text : DTS := (wRet (wJoinC " " (wOfL (wComp (iSeq (wVar 0)) (gN 1) tT (wCall [] sp_sides_text (wCons (wVar 1) wNil)) [1]))))
theorem ln_sides_text : ∀ cs R, sp_sides_text cs R → cs.length = 1 := by
  intro cs R h
  unfold sp_sides_text at h
  repeat (obtain ⟨_, h⟩ := h)
  subst_vars; rfl
theorem ln_kinds_text : ∀ cs R, sp_kinds_text cs R → cs.length = 1 := by
  intro cs R h
  unfold sp_kinds_text at h
  repeat (obtain ⟨_, h⟩ := h)
  subst_vars; rfl
end TW
set_option Elab.async false
set_option linter.all false
set_option maxRecDepth 100000
set_option maxHeartbeats 4000000
namespace TW
open PySem PySem.Spec PyProof.Rows L2 DL
theorem join_same (a : Str) (ys : List Str) : Txt.join a ys = Str.join a ys := PySem.StrLaws.glued_eq_join a ys
theorem sep_x : Str.ofString "x" = S [120] := by decide +kernel
theorem sep_b : Str.ofString " " = S [32] := by decide +kernel
theorem log_num {x : Int} (h : NumOk x) : x.natAbs.log2 < 1920 := by
  obtain ⟨h1, h2⟩ := h
  exact Nat.lt_of_lt_of_le (log_abs (B := 64) (by decide) (by omega) (by omega)) (by decide)
theorem dg_len13 {n : Int} (h : NumOk n) : (dg n.toNat).length ≤ 13 := by
  obtain ⟨h1, h2⟩ := h
  exact Nat.le_trans (dg_len 13 n.toNat (by omega)) (by decide)
theorem sx_len {ns : List Int} (h : ∀ n ∈ ns, NumOk n) : (sx ns).length ≤ ns.length * 14 := by
  have := glue_len (c := 120) (B := 13) (ls := ns.map fun n => dg n.toNat) fun l m => by
    obtain ⟨n, hm, rfl⟩ := List.mem_map.mp m
    exact dg_len13 (h n hm)
  rwa [List.length_map] at this
theorem rd_sides_text : ∀ cs R, sp_sides_text cs R → w_sides_text (endsOf cs R) (start0 2 cs) := by
  rintro _ R ⟨ns, rfl, hl, hn, hR⟩
  simp -implicitDefEqProofs -dsimp [w_sides_text, tI]
  refine com_map ns (fun x => .int x) rfl (fun x => some (.str (nS x))) (fun x hx acc K hK => ?_) ?_
  · have hx := hn x hx
    simp -implicitDefEqProofs -dsimp [text_rep (show 0 ≤ x by have := hx.1; omega)]
    exact ⟨log_num hx, hK⟩
  · have e : ns.filterMap (fun x => some (PyData.str (nS x))) = ((ns.map fun n => dg n.toNat).map S).map PyData.str := by simp [Function.comp_def, nS]
    have b := sum_len (B := 13) (ls := ns.map fun n => dg n.toNat) fun l m => by
      obtain ⟨n, hm, rfl⟩ := List.mem_map.mp m
      exact dg_len13 (hn n hm)
    have j := join_S 120 (ns.map fun n => dg n.toNat)
    rw [List.length_map] at b
    rw [e, sep_x]
    have ly : ((ns.map fun n => dg n.toNat).map S).length = ns.length := by simp
    generalize (ns.map fun n => dg n.toNat).map S = ys at *
    (try simp -implicitDefEqProofs -dsimp)
    have l1 : (S [120]).length = 1 := rfl
    refine ⟨by rw [ly, l1]; omega, ?_⟩
    rw [join_same, j]
    exact hR
theorem rd_kinds_text : ∀ cs R, sp_kinds_text cs R → w_kinds_text (endsOf cs R) (start0 2 cs) := by
  rintro _ R ⟨kss, rfl, hl, hn, hR⟩
  simp -implicitDefEqProofs -dsimp [w_kinds_text]
  refine com_map kss tI rfl (fun ns => some (tS (sx ns))) (fun ns hx acc K hK => ?_) ?_
  · (try simp -implicitDefEqProofs -dsimp)
    exact ask_of ⟨ns, rfl, (hn ns hx).1, (hn ns hx).2, by simp -implicitDefEqProofs -dsimp; exact hK⟩
  · have e : kss.filterMap (fun ns => some (tS (sx ns))) = ((kss.map sx).map S).map PyData.str := by simp [Function.comp_def, tS, S]
    have b := sum_len (B := 112) (ls := kss.map sx) fun l m => by
      obtain ⟨ns, hm, rfl⟩ := List.mem_map.mp m
      have := sx_len (hn ns hm).2
      have := (hn ns hm).1
      omega
    have j := join_S 32 (kss.map sx)
    rw [List.length_map] at b
    rw [e, sep_b]
    have ly : ((kss.map sx).map S).length = kss.length := by simp
    generalize (kss.map sx).map S = ys at *
    (try simp -implicitDefEqProofs -dsimp)
    have l1 : (S [32]).length = 1 := rfl
    refine ⟨by rw [ly, l1]; omega, ?_⟩
    rw [join_same, j]
    exact hR
structure NumAt (L : List Nat) (a : Nat) (D : List Nat) : Prop where
  at_j : ∀ j (h : j < D.length), L[a + j]? = some D[j]
  le : a + D.length ≤ L.length
  nxt : a + D.length < L.length → ∃ c, L[a + D.length]? = some c ∧ (c < 48 ∨ 57 < c)
theorem fig_memA (c : Nat) : c ∈ (Str.ofString "0123456789").cps ↔ (48 ≤ c ∧ c ≤ 57) := by rw [← fig_mem c, Array.mem_toList_iff]
theorem zero_S : (Str.ofString "0") = (⟨#[48]⟩ : Str) := by decide +kernel
def tl (ms : List Int) : List Nat := ms.flatMap fun m => 120 :: dg m.toNat
theorem x_S : (Str.ofString "x") = (⟨#[120]⟩ : Str) := by decide +kernel
theorem b_S : (Str.ofString " ") = (⟨#[32]⟩ : Str) := by decide +kernel
def kl (bs : List (List Int)) : List Nat := bs.flatMap fun b => 32 :: sx b
end TW
set_option Elab.async false
set_option linter.all false
set_option maxRecDepth 100000
set_option maxHeartbeats 4000000
namespace TW
open PySem PySem.Spec PyProof.Rows L2 DL
structure Pq9 (p q : List Int) : Prop where
  l : q.length = p.length
  l0 : 0 < p.length
  l1 : p.length ≤ 4
  p : ∀ x ∈ p, 1 ≤ x ∧ x ≤ 1000
  q : ∀ x ∈ q, 1 ≤ x ∧ x ≤ 1000
end TW
set_option Elab.async false
set_option linter.all false
set_option maxRecDepth 100000
set_option maxHeartbeats 4000000
namespace TW
open PySem PySem.Spec PyProof.Rows L2 DL
theorem In.snoc {m y : Int} {ns : List Int} (h : In m ns) (h0 : 1 ≤ y) (h1 : y ≤ m) : In m (ns ++ [y]) := fun x hx => by
  rcases List.mem_append.mp hx with q | q
  · exact h x q
  · rw [List.mem_singleton.mp q]; exact ⟨h0, h1⟩
end TW
set_option Elab.async false
set_option linter.all false
set_option maxRecDepth 100000
set_option maxHeartbeats 4000000
namespace TW
open PySem PySem.Spec PyProof.Rows L2 DL
def jointF (a b : Int) : Int := a / gcdI a b * b
inductive Way
  | non
  | steps (k : Int)
  | sums (l h : Int)
def Way.d : Way → PyData
  | .non => .tuple [.str "none"]
  | .steps k => .tuple [.str "steps", .int k]
  | .sums l h => .tuple [.str "sums", .int l, .int h]
def Way.fits : Way → Int → Bool
  | .non, _ => false
  | .steps k, s => decide (s % k = 0)
  | .sums l h, s => isSum l h s
def gapF : Way → PyData
  | .steps k => if k = 1 then .int 0 else .none
  | .sums l h => if gcdI l h = 1 then .int (l * h - l - h) else .none
  | .non => .none
def tailF : Way → PyData
  | .steps k => .tuple [.int 1, .int k]
  | .sums l h => .tuple [.int (jointF l h - l - h + 1), .int (gcdI l h)]
  | .non => .tuple [.int 1, .int 1]
end TW
set_option Elab.async false
set_option linter.all false
set_option maxRecDepth 100000
set_option maxHeartbeats 4000000
namespace TW
open PySem PySem.Spec PyProof.Rows L2 DL
end TW
set_option Elab.async false
set_option linter.all false
set_option maxRecDepth 100000
set_option maxHeartbeats 4000000
namespace TW
open PySem PySem.Spec PyProof.Rows L2 DL
structure Cu where
  w : Int
  ab : Int
  ae : Int
  st : Int
  bg : Int
  am : Int
def Cu.fs (c : Cu) : List (Str × PyData) := [("whole", .int c.w), ("at_begin", .int c.ab), ("at_end", .int c.ae), ("step", .int c.st), ("begin", .int c.bg), ("amid", .int c.am)]
def Cu.d (c : Cu) : PyData := obD "Cuts" c.fs
def Cu.spot (c : Cu) (n : Int) : Int := if n < c.ab then 0 else if n - c.ab < c.am then c.bg + c.st * (n - c.ab) else c.w
end TW
set_option Elab.async false
set_option linter.all false
set_option maxRecDepth 100000
set_option maxHeartbeats 4000000
namespace TW
open PySem PySem.Spec PyProof.Rows L2 DL
@[simp] theorem ne_whole_at_begin : (Str.ofString "whole" = Str.ofString "at_begin") = False := eq_false (by decide +kernel)
@[simp] theorem nb_whole_at_begin : (Str.ofString "whole" == Str.ofString "at_begin") = false := by decide +kernel
@[simp] theorem ne_whole_at_end : (Str.ofString "whole" = Str.ofString "at_end") = False := eq_false (by decide +kernel)
@[simp] theorem nb_whole_at_end : (Str.ofString "whole" == Str.ofString "at_end") = false := by decide +kernel
@[simp] theorem ne_whole_step : (Str.ofString "whole" = Str.ofString "step") = False := eq_false (by decide +kernel)
@[simp] theorem nb_whole_step : (Str.ofString "whole" == Str.ofString "step") = false := by decide +kernel
@[simp] theorem ne_whole_begin : (Str.ofString "whole" = Str.ofString "begin") = False := eq_false (by decide +kernel)
@[simp] theorem nb_whole_begin : (Str.ofString "whole" == Str.ofString "begin") = false := by decide +kernel
@[simp] theorem ne_whole_amid : (Str.ofString "whole" = Str.ofString "amid") = False := eq_false (by decide +kernel)
@[simp] theorem nb_whole_amid : (Str.ofString "whole" == Str.ofString "amid") = false := by decide +kernel
@[simp] theorem ne_at_begin_whole : (Str.ofString "at_begin" = Str.ofString "whole") = False := eq_false (by decide +kernel)
@[simp] theorem nb_at_begin_whole : (Str.ofString "at_begin" == Str.ofString "whole") = false := by decide +kernel
@[simp] theorem ne_at_begin_at_end : (Str.ofString "at_begin" = Str.ofString "at_end") = False := eq_false (by decide +kernel)
@[simp] theorem nb_at_begin_at_end : (Str.ofString "at_begin" == Str.ofString "at_end") = false := by decide +kernel
@[simp] theorem ne_at_begin_step : (Str.ofString "at_begin" = Str.ofString "step") = False := eq_false (by decide +kernel)
@[simp] theorem nb_at_begin_step : (Str.ofString "at_begin" == Str.ofString "step") = false := by decide +kernel
@[simp] theorem ne_at_begin_begin : (Str.ofString "at_begin" = Str.ofString "begin") = False := eq_false (by decide +kernel)
@[simp] theorem nb_at_begin_begin : (Str.ofString "at_begin" == Str.ofString "begin") = false := by decide +kernel
@[simp] theorem ne_at_begin_amid : (Str.ofString "at_begin" = Str.ofString "amid") = False := eq_false (by decide +kernel)
@[simp] theorem nb_at_begin_amid : (Str.ofString "at_begin" == Str.ofString "amid") = false := by decide +kernel
@[simp] theorem ne_at_end_whole : (Str.ofString "at_end" = Str.ofString "whole") = False := eq_false (by decide +kernel)
@[simp] theorem nb_at_end_whole : (Str.ofString "at_end" == Str.ofString "whole") = false := by decide +kernel
@[simp] theorem ne_at_end_at_begin : (Str.ofString "at_end" = Str.ofString "at_begin") = False := eq_false (by decide +kernel)
@[simp] theorem nb_at_end_at_begin : (Str.ofString "at_end" == Str.ofString "at_begin") = false := by decide +kernel
@[simp] theorem ne_at_end_step : (Str.ofString "at_end" = Str.ofString "step") = False := eq_false (by decide +kernel)
@[simp] theorem nb_at_end_step : (Str.ofString "at_end" == Str.ofString "step") = false := by decide +kernel
@[simp] theorem ne_at_end_begin : (Str.ofString "at_end" = Str.ofString "begin") = False := eq_false (by decide +kernel)
@[simp] theorem nb_at_end_begin : (Str.ofString "at_end" == Str.ofString "begin") = false := by decide +kernel
@[simp] theorem ne_at_end_amid : (Str.ofString "at_end" = Str.ofString "amid") = False := eq_false (by decide +kernel)
@[simp] theorem nb_at_end_amid : (Str.ofString "at_end" == Str.ofString "amid") = false := by decide +kernel
@[simp] theorem ne_step_whole : (Str.ofString "step" = Str.ofString "whole") = False := eq_false (by decide +kernel)
@[simp] theorem nb_step_whole : (Str.ofString "step" == Str.ofString "whole") = false := by decide +kernel
@[simp] theorem ne_step_at_begin : (Str.ofString "step" = Str.ofString "at_begin") = False := eq_false (by decide +kernel)
@[simp] theorem nb_step_at_begin : (Str.ofString "step" == Str.ofString "at_begin") = false := by decide +kernel
@[simp] theorem ne_step_at_end : (Str.ofString "step" = Str.ofString "at_end") = False := eq_false (by decide +kernel)
@[simp] theorem nb_step_at_end : (Str.ofString "step" == Str.ofString "at_end") = false := by decide +kernel
@[simp] theorem ne_step_begin : (Str.ofString "step" = Str.ofString "begin") = False := eq_false (by decide +kernel)
@[simp] theorem nb_step_begin : (Str.ofString "step" == Str.ofString "begin") = false := by decide +kernel
@[simp] theorem ne_step_amid : (Str.ofString "step" = Str.ofString "amid") = False := eq_false (by decide +kernel)
@[simp] theorem nb_step_amid : (Str.ofString "step" == Str.ofString "amid") = false := by decide +kernel
@[simp] theorem ne_begin_whole : (Str.ofString "begin" = Str.ofString "whole") = False := eq_false (by decide +kernel)
@[simp] theorem nb_begin_whole : (Str.ofString "begin" == Str.ofString "whole") = false := by decide +kernel
@[simp] theorem ne_begin_at_begin : (Str.ofString "begin" = Str.ofString "at_begin") = False := eq_false (by decide +kernel)
@[simp] theorem nb_begin_at_begin : (Str.ofString "begin" == Str.ofString "at_begin") = false := by decide +kernel
@[simp] theorem ne_begin_at_end : (Str.ofString "begin" = Str.ofString "at_end") = False := eq_false (by decide +kernel)
@[simp] theorem nb_begin_at_end : (Str.ofString "begin" == Str.ofString "at_end") = false := by decide +kernel
@[simp] theorem ne_begin_step : (Str.ofString "begin" = Str.ofString "step") = False := eq_false (by decide +kernel)
@[simp] theorem nb_begin_step : (Str.ofString "begin" == Str.ofString "step") = false := by decide +kernel
@[simp] theorem ne_begin_amid : (Str.ofString "begin" = Str.ofString "amid") = False := eq_false (by decide +kernel)
@[simp] theorem nb_begin_amid : (Str.ofString "begin" == Str.ofString "amid") = false := by decide +kernel
@[simp] theorem ne_amid_whole : (Str.ofString "amid" = Str.ofString "whole") = False := eq_false (by decide +kernel)
@[simp] theorem nb_amid_whole : (Str.ofString "amid" == Str.ofString "whole") = false := by decide +kernel
@[simp] theorem ne_amid_at_begin : (Str.ofString "amid" = Str.ofString "at_begin") = False := eq_false (by decide +kernel)
@[simp] theorem nb_amid_at_begin : (Str.ofString "amid" == Str.ofString "at_begin") = false := by decide +kernel
@[simp] theorem ne_amid_at_end : (Str.ofString "amid" = Str.ofString "at_end") = False := eq_false (by decide +kernel)
@[simp] theorem nb_amid_at_end : (Str.ofString "amid" == Str.ofString "at_end") = false := by decide +kernel
@[simp] theorem ne_amid_step : (Str.ofString "amid" = Str.ofString "step") = False := eq_false (by decide +kernel)
@[simp] theorem nb_amid_step : (Str.ofString "amid" == Str.ofString "step") = false := by decide +kernel
@[simp] theorem ne_amid_begin : (Str.ofString "amid" = Str.ofString "begin") = False := eq_false (by decide +kernel)
@[simp] theorem nb_amid_begin : (Str.ofString "amid" == Str.ofString "begin") = false := by decide +kernel
@[simp] theorem nb_many_whole : (Str.ofString "many" == Str.ofString "whole") = false := by decide +kernel
@[simp] theorem nb_many_at_begin : (Str.ofString "many" == Str.ofString "at_begin") = false := by decide +kernel
@[simp] theorem nb_many_at_end : (Str.ofString "many" == Str.ofString "at_end") = false := by decide +kernel
@[simp] theorem nb_many_step : (Str.ofString "many" == Str.ofString "step") = false := by decide +kernel
@[simp] theorem nb_many_begin : (Str.ofString "many" == Str.ofString "begin") = false := by decide +kernel
@[simp] theorem nb_many_amid : (Str.ofString "many" == Str.ofString "amid") = false := by decide +kernel
@[simp] theorem nolook_many (c : Cu) : c.fs.lookup (Str.ofString "many") = none := by simp [Cu.fs, List.lookup]
@[simp] theorem nb_spot_whole : (Str.ofString "spot" == Str.ofString "whole") = false := by decide +kernel
@[simp] theorem nb_spot_at_begin : (Str.ofString "spot" == Str.ofString "at_begin") = false := by decide +kernel
@[simp] theorem nb_spot_at_end : (Str.ofString "spot" == Str.ofString "at_end") = false := by decide +kernel
@[simp] theorem nb_spot_step : (Str.ofString "spot" == Str.ofString "step") = false := by decide +kernel
@[simp] theorem nb_spot_begin : (Str.ofString "spot" == Str.ofString "begin") = false := by decide +kernel
@[simp] theorem nb_spot_amid : (Str.ofString "spot" == Str.ofString "amid") = false := by decide +kernel
@[simp] theorem nolook_spot (c : Cu) : c.fs.lookup (Str.ofString "spot") = none := by simp [Cu.fs, List.lookup]
@[simp] theorem nb_rank_whole : (Str.ofString "rank" == Str.ofString "whole") = false := by decide +kernel
@[simp] theorem nb_rank_at_begin : (Str.ofString "rank" == Str.ofString "at_begin") = false := by decide +kernel
@[simp] theorem nb_rank_at_end : (Str.ofString "rank" == Str.ofString "at_end") = false := by decide +kernel
@[simp] theorem nb_rank_step : (Str.ofString "rank" == Str.ofString "step") = false := by decide +kernel
@[simp] theorem nb_rank_begin : (Str.ofString "rank" == Str.ofString "begin") = false := by decide +kernel
@[simp] theorem nb_rank_amid : (Str.ofString "rank" == Str.ofString "amid") = false := by decide +kernel
@[simp] theorem nolook_rank (c : Cu) : c.fs.lookup (Str.ofString "rank") = none := by simp [Cu.fs, List.lookup]
theorem look_whole (c : Cu) : c.fs.lookup (Str.ofString "whole") = some (.int c.w) := by simp [Cu.fs, List.lookup]
theorem look_at_begin (c : Cu) : c.fs.lookup (Str.ofString "at_begin") = some (.int c.ab) := by simp [Cu.fs, List.lookup]
theorem look_at_end (c : Cu) : c.fs.lookup (Str.ofString "at_end") = some (.int c.ae) := by simp [Cu.fs, List.lookup]
theorem look_step (c : Cu) : c.fs.lookup (Str.ofString "step") = some (.int c.st) := by simp [Cu.fs, List.lookup]
theorem look_begin (c : Cu) : c.fs.lookup (Str.ofString "begin") = some (.int c.bg) := by simp [Cu.fs, List.lookup]
theorem look_amid (c : Cu) : c.fs.lookup (Str.ofString "amid") = some (.int c.am) := by simp [Cu.fs, List.lookup]
@[simp ↓] theorem fld_whole (c : Cu) (k : PyData → Prop) (u : Stop k) : fldC c.d (Str.ofString "Cuts") (Str.ofString "whole") k u = k (.int c.w) := fldC_of (look_whole c)
@[simp ↓] theorem fld_at_begin (c : Cu) (k : PyData → Prop) (u : Stop k) : fldC c.d (Str.ofString "Cuts") (Str.ofString "at_begin") k u = k (.int c.ab) := fldC_of (look_at_begin c)
@[simp ↓] theorem fld_at_end (c : Cu) (k : PyData → Prop) (u : Stop k) : fldC c.d (Str.ofString "Cuts") (Str.ofString "at_end") k u = k (.int c.ae) := fldC_of (look_at_end c)
@[simp ↓] theorem fld_step (c : Cu) (k : PyData → Prop) (u : Stop k) : fldC c.d (Str.ofString "Cuts") (Str.ofString "step") k u = k (.int c.st) := fldC_of (look_step c)
@[simp ↓] theorem fld_begin (c : Cu) (k : PyData → Prop) (u : Stop k) : fldC c.d (Str.ofString "Cuts") (Str.ofString "begin") k u = k (.int c.bg) := fldC_of (look_begin c)
@[simp ↓] theorem fld_amid (c : Cu) (k : PyData → Prop) (u : Stop k) : fldC c.d (Str.ofString "Cuts") (Str.ofString "amid") k u = k (.int c.am) := fldC_of (look_amid c)
theorem PB.f1 {a b bx : List Int} {f : Nat} (h : PB a b bx) : (fst2 f a b).length = bx.length ∧ ∀ x ∈ fst2 f a b, Pos x := by
  unfold fst2
  split
  · exact ⟨h.la, h.pa⟩
  · exact ⟨h.lb, h.pb⟩
theorem PB.f2 {a b bx : List Int} {f : Nat} (h : PB a b bx) : (fst2 f b a).length = bx.length ∧ ∀ x ∈ fst2 f b a, Pos x := by
  unfold fst2
  split
  · exact ⟨h.lb, h.pb⟩
  · exact ⟨h.la, h.pa⟩
end TW
set_option Elab.async false
set_option linter.all false
set_option maxRecDepth 100000
set_option maxHeartbeats 4000000
namespace TW
open PySem PySem.Spec PyProof.Rows L2 DL

def cellsR : List Int → List (List Int)
  | [] => [[]]
  | s :: ss => (List.range s.toNat).flatMap fun k => (cellsR ss).map (((k : Nat) : Int) :: ·)
theorem cells_fold : ∀ (ss : List Int) (L : List (List Int)), ss.foldl cellsStep L = L.flatMap fun c => (cellsR ss).map (c ++ ·)
  | [], L => by
    show L = L.flatMap fun c => [c ++ []]
    induction L with
    | nil => rfl
    | cons x L ih => rw [List.flatMap_cons, ← ih, List.append_nil]; rfl
  | s :: ss, L => by
    rw [List.foldl_cons, cells_fold ss]
    unfold cellsStep
    rw [List.flatMap_assoc]
    congr 1
    funext c
    rw [List.flatMap_map, cellsR, List.map_flatMap]
    congr 1
    funext k
    rw [List.map_map]
    congr 1
    funext d
    simp
theorem cells_eq (ss : List Int) : cellsF ss = cellsR ss := by
  unfold cellsF
  rw [cells_fold]
  simp
def lx : List Int → List Int → Prop
  | x :: xs, y :: ys => x < y ∨ (x = y ∧ lx xs ys)
  | _, _ => False
theorem cells_sorted : ∀ ss : List Int, (cellsR ss).Pairwise lx
  | [] => by simp [cellsR]
  | s :: ss => by
    rw [cellsR, List.pairwise_flatMap]
    refine ⟨fun k _ => ?_, ?_⟩
    · rw [List.pairwise_map]
      exact (cells_sorted ss).imp fun {a b} h => .inr ⟨rfl, h⟩
    · refine List.pairwise_lt_range.imp fun {k l} h x hx y hy => ?_
      obtain ⟨x, _, rfl⟩ := List.mem_map.mp hx
      obtain ⟨y, _, rfl⟩ := List.mem_map.mp hy
      exact .inl (by omega)
theorem lx_ge : ∀ {x y : List Int}, lx x y → x.length = y.length → (∀ i, i < x.length → gi y i ≤ gi x i) → False
  | [], _, h, _, _ => by simp [lx] at h
  | _ :: _, [], h, _, _ => by simp [lx] at h
  | x :: xs, y :: ys, h, hl, hg => by
    have h0 : y ≤ x := hg 0 (by simp)
    rcases h with h | ⟨rfl, h⟩
    · omega
    · exact lx_ge h (by simpa using hl) fun i hi => hg (i + 1) (by simp; omega)
theorem gi_extL : ∀ {x y : List Int}, x.length = y.length → (∀ i, i < x.length → gi x i = gi y i) → x = y
  | [], [], _, _ => rfl
  | [], _ :: _, h, _ => by simp at h
  | _ :: _, [], h, _ => by simp at h
  | x :: xs, y :: ys, hl, h => by
    have h0 : x = y := h 0 (by simp)
    have := gi_extL (x := xs) (y := ys) (by simpa using hl) fun i hi => h (i + 1) (by simp; omega)
    rw [h0, this]
theorem cells_nodup (ss : List Int) : (cellsF ss).Nodup := by
  rw [cells_eq]
  refine (cells_sorted ss).imp fun {a b} h e => ?_
  subst e
  exact lx_ge h rfl fun i _ => Int.le_refl _
def movF (x c : List Int) : List Int := List.zipWith (· + ·) x c
def covF (b c : List Int) : List (List Int) := (cellsF b).map fun x => movF x c
theorem gi_mov {x c : List Int} {i : Nat} (h : i < x.length) (h' : i < c.length) : gi (movF x c) i = gi x i + gi c i := by
  unfold gi movF
  rw [List.getElem?_zipWith, List.getElem?_eq_getElem h, List.getElem?_eq_getElem h']
  rfl
theorem mov_len {x c : List Int} (h : x.length = c.length) : (movF x c).length = c.length := by unfold movF; simp [h]
theorem mem_cov {b c d : List Int} (h : c.length = b.length) : d ∈ covF b c ↔ d.length = b.length ∧ ∀ i, i < b.length → gi c i ≤ gi d i ∧ gi d i < gi c i + gi b i := by
  unfold covF
  rw [List.mem_map]
  constructor
  · rintro ⟨x, hx, rfl⟩
    obtain ⟨h1, h2⟩ := (mem_cells b.length b rfl x).mp hx
    refine ⟨by rw [mov_len (by omega)]; exact h, fun i hi => ?_⟩
    have := h2 i hi
    rw [gi_mov (by omega) (by omega)]
    omega
  · rintro ⟨h1, h2⟩
    refine ⟨List.zipWith (· - ·) d c, (mem_cells b.length b rfl _).mpr ⟨by simp; omega, fun i hi => ?_⟩, ?_⟩
    · have := h2 i hi
      have e : gi (List.zipWith (· - ·) d c) i = gi d i - gi c i := by
        unfold gi
        rw [List.getElem?_zipWith, List.getElem?_eq_getElem (show i < d.length by omega), List.getElem?_eq_getElem (show i < c.length by omega)]
        rfl
      omega
    · refine gi_extL (by rw [mov_len (by simp; omega)]; omega) fun i hi => ?_
      rw [mov_len (by simp; omega)] at hi
      rw [gi_mov (by simp; omega) hi]
      have e : gi (List.zipWith (· - ·) d c) i = gi d i - gi c i := by
        unfold gi
        rw [List.getElem?_zipWith, List.getElem?_eq_getElem (show i < d.length by omega), List.getElem?_eq_getElem (show i < c.length by omega)]
        rfl
      omega
def Fits (b bx c : List Int) : Prop := c.length = bx.length ∧ ∀ i, i < bx.length → 0 ≤ gi c i ∧ gi c i + gi b i ≤ gi bx i
abbrev BrL : Type := List Int × List Int
structure LayW (ks : List (List Int)) (bx : List Int) (known : List (List Int)) (bs : List BrL) : Prop where
  fit : ∀ x ∈ bs, x.1 ∈ ks ∧ Fits x.1 bx x.2
  dis : bs.Pairwise fun x y => ∀ d, d ∈ covF x.1 x.2 → d ∉ covF y.1 y.2
  new : ∀ x ∈ bs, ∀ d ∈ covF x.1 x.2, d ∉ known
  all : ∀ d ∈ cellsF bx, d ∈ known ∨ ∃ x ∈ bs, d ∈ covF x.1 x.2
def Kin (ks : List (List Int)) (bx : List Int) : Prop := ∀ b ∈ ks, b.length = bx.length ∧ ∀ x ∈ b, 1 ≤ x
theorem fits_in {b bx c d : List Int} (hl : b.length = bx.length) (h : Fits b bx c) (hd : d ∈ covF b c) : d ∈ cellsF bx := by
  obtain ⟨h1, h2⟩ := (mem_cov (by have := h.1; omega)).mp hd
  exact (mem_cells bx.length bx rfl d).mpr ⟨by omega, fun i hi => by have := h2 i (by omega); have := h.2 i hi; omega⟩
theorem corner_in {b c : List Int} (hc : c.length = b.length) (h : ∀ x ∈ b, 1 ≤ x) : c ∈ covF b c := (mem_cov hc).mpr ⟨hc, fun i hi => by
  have := h _ (gi_mem hi)
  omega⟩
def sm (l : List Int) : Int := l.foldr (· + ·) 0
theorem floor_bd (x : Int) {b : Int} (hb : 1 ≤ b) : x / b * b ≤ x ∧ x < x / b * b + b := by
  have h1 := Int.mul_ediv_add_emod x b
  rw [Int.mul_comm] at h1
  have h2 := Int.emod_nonneg x (show b ≠ 0 by omega)
  have h3 := Int.emod_lt_of_pos x (show 0 < b by omega)
  omega
theorem floor_eq {x c b : Int} (hb : 1 ≤ b) (h0 : c / b * b = c) (h1 : c ≤ x) (h2 : x < c + b) : x / b * b = c := by
  have e : x / b = c / b := by
    have : x = (x - c) + b * (c / b) := by rw [Int.mul_comm]; omega
    rw [this, Int.add_mul_ediv_left _ _ (show b ≠ 0 by omega), Int.ediv_eq_zero_of_lt (by omega) (by omega)]
    omega
  rw [e, h0]
section
variable (p q : List Int) (ax : Nat) (z : Int)
def lowB (d : List Int) : Prop := gi d ax < z
instance (d : List Int) : Decidable (lowB ax z d) := by unfold lowB; infer_instance
end
end TW
set_option Elab.async false
set_option linter.all false
set_option maxRecDepth 100000
set_option maxHeartbeats 4000000
namespace TW
open PySem PySem.Spec PyProof.Rows L2 DL
inductive Row where
  | one (k : Nat)
  | two (ax i j : Nat)
def Row.d : Row → PyData
  | .one k => .tuple [.int (k : Int)]
  | .two ax i j => .tuple [.int (ax : Int), .int (i : Int), .int (j : Int)]
structure Kd (n : Nat) (ks : List (List Int)) : Prop where
  l0 : 0 < ks.length
  l1 : ks.length ≤ 4
  n0 : 0 < n
  n1 : n ≤ 4
  len : ∀ k ∈ ks, k.length = n
  side : ∀ k ∈ ks, In (10 ^ 12) k
structure Bs (n : Nat) (bs : List (List Int)) : Prop where
  len : ∀ k ∈ bs, k.length = n
  side : ∀ k ∈ bs, In (10 ^ 400) k
def bxOf (bs : List (List Int)) (i : Nat) : List Int := bs.getD i []
def putF (one other : List Int) (ax : Nat) : List Int := one.set ax (gi one ax + gi other ax)
def agreeB (one other : List Int) (ax : Nat) : Bool := (List.range one.length).all fun k => decide (k = ax) || decide (gi one k = gi other k)
def boxR (ks bs : List (List Int)) : Row → List Int
  | .one k => bxOf ks k
  | .two ax i j => putF (bxOf bs i) (bxOf bs j) ax
def wordR (bs : List (List Int)) : Row → Option Str
  | .one _ => none
  | .two ax i j => if agreeB (bxOf bs i) (bxOf bs j) ax = false then some "sides" else if gi (bxOf bs i) ax + gi (bxOf bs j) ax > 10 ^ 12 then some "great" else none
def RowIn (kn n idx : Nat) : Row → Prop
  | .one k => k < kn
  | .two ax i j => ax < n ∧ i < idx ∧ j < idx
end TW
set_option Elab.async false
set_option linter.all false
set_option maxRecDepth 100000
set_option maxHeartbeats 4000000
namespace TW
open PySem PySem.Spec PyProof.Rows L2 DL
theorem Bs.at {n : Nat} {bs : List (List Int)} (h : Bs n bs) {i : Nat} (hi : i < bs.length) : bs[i]? = some (bxOf bs i) ∧ (bxOf bs i).length = n ∧ In (10 ^ 400) (bxOf bs i) := by
  have e : bxOf bs i = bs[i] := by unfold bxOf; rw [List.getD_eq_getElem?_getD, List.getElem?_eq_getElem hi]; rfl
  refine ⟨?_, ?_, ?_⟩
  · rw [e, List.getElem?_eq_getElem hi]
  · rw [e]; exact h.len _ (List.getElem_mem hi)
  · rw [e]; exact h.side _ (List.getElem_mem hi)
theorem Kd.at {n : Nat} {ks : List (List Int)} (h : Kd n ks) {i : Nat} (hi : i < ks.length) : ks[i]? = some (bxOf ks i) ∧ (bxOf ks i).length = n ∧ In (10 ^ 12) (bxOf ks i) := by
  have e : bxOf ks i = ks[i] := by unfold bxOf; rw [List.getD_eq_getElem?_getD, List.getElem?_eq_getElem hi]; rfl
  refine ⟨?_, ?_, ?_⟩
  · rw [e, List.getElem?_eq_getElem hi]
  · rw [e]; exact h.len _ (List.getElem_mem hi)
  · rw [e]; exact h.side _ (List.getElem_mem hi)
structure B12 (n : Nat) (bs : List (List Int)) : Prop where
  len : ∀ k ∈ bs, k.length = n
  side : ∀ k ∈ bs, In (10 ^ 12) k
theorem B12.bs {n : Nat} {bs : List (List Int)} (h : B12 n bs) : Bs n bs := ⟨h.len, fun k hk x hx => by have := h.side k hk x hx; exact ⟨this.1, Int.le_trans this.2 (by decide)⟩⟩
theorem B12.at {n : Nat} {bs : List (List Int)} (h : B12 n bs) {i : Nat} (hi : i < bs.length) : bs[i]? = some (bxOf bs i) ∧ (bxOf bs i).length = n ∧ In (10 ^ 12) (bxOf bs i) := by
  obtain ⟨e1, e2, _⟩ := h.bs.at hi
  refine ⟨e1, e2, ?_⟩
  have e : bxOf bs i = bs[i] := by unfold bxOf; rw [List.getD_eq_getElem?_getD, List.getElem?_eq_getElem hi]; rfl
  rw [e]; exact h.side _ (List.getElem_mem hi)
theorem B12.row {n : Nat} {ks bs : List (List Int)} (hk : Kd n ks) (h : B12 n bs) {r : Row} (hr : RowIn ks.length n bs.length r) (hw : wordR bs r = none) : B12 n (bs ++ [boxR ks bs r]) ∧ (boxR ks bs r).length = n ∧ In (10 ^ 12) (boxR ks bs r) := by
  have one : (boxR ks bs r).length = n ∧ In (10 ^ 12) (boxR ks bs r) := by
    cases r with
    | one k => exact (hk.at (i := k) hr).2
    | two ax i j =>
      obtain ⟨hx, hi, hj⟩ := hr
      obtain ⟨_, l1, b1⟩ := h.at hi
      obtain ⟨_, l2, b2⟩ := h.at hj
      have hw : (if agreeB (bxOf bs i) (bxOf bs j) ax = false then some ("sides" : Str) else if gi (bxOf bs i) ax + gi (bxOf bs j) ax > 10 ^ 12 then some "great" else none) = none := hw
      split at hw
      · cases hw
      · split at hw
        · cases hw
        · rename_i g
          have c1 := b1 _ (gi_mem (show ax < (bxOf bs i).length by omega))
          have c2 := b2 _ (gi_mem (show ax < (bxOf bs j).length by omega))
          exact ⟨by show ((bxOf bs i).set ax _).length = n; rw [List.length_set]; exact l1, b1.set (by omega) (by omega)⟩
  refine ⟨⟨fun k hk => ?_, fun k hk => ?_⟩, one⟩
  · rcases List.mem_append.mp hk with q | q
    · exact h.len k q
    · rw [List.mem_singleton.mp q]; exact one.1
  · rcases List.mem_append.mp hk with q | q
    · exact h.side k q
    · rw [List.mem_singleton.mp q]; exact one.2
end TW
set_option Elab.async false
set_option linter.all false
set_option maxRecDepth 100000
set_option maxHeartbeats 4000000
namespace TW
open PySem PySem.Spec PyProof.Rows L2 DL
end TW
set_option Elab.async false
set_option linter.all false
set_option maxRecDepth 100000
set_option maxHeartbeats 4000000
namespace TW
open PySem PySem.Spec PyProof.Rows L2 DL
structure Tail (w : Way) (c g : Int) : Prop where
  g1 : 1 ≤ g
  c0 : 0 ≤ c
  far : ∀ s, c < s → (w.fits s = true ↔ g ∣ s)
  at0 : c = 0 ∨ (1 ≤ c ∧ w.fits c = false ∧ g ∣ c)
  tl : tailF w = .tuple [.int (c + 1), .int g]
  gp : gapF w = if g = 1 then .int c else .none
end TW
set_option Elab.async false
set_option linter.all false
set_option maxRecDepth 100000
set_option maxHeartbeats 4000000
namespace TW
open PySem PySem.Spec PyProof.Rows L2 DL
end TW
set_option Elab.async false
set_option linter.all false
set_option maxRecDepth 100000
set_option maxHeartbeats 4000000
namespace TW
open PySem PySem.Spec PyProof.Rows L2 DL
end TW
set_option Elab.async false
set_option linter.all false
set_option maxRecDepth 100000
set_option maxHeartbeats 4000000
namespace TW
open PySem PySem.Spec PyProof.Rows L2 DL
end TW
set_option Elab.async false
set_option linter.all false
set_option maxRecDepth 100000
set_option maxHeartbeats 4000000
namespace TW
open PySem PySem.Spec PyProof.Rows L2 DL
end TW
set_option Elab.async false
set_option linter.all false
set_option maxRecDepth 100000
set_option maxHeartbeats 4000000
namespace TW
open PySem PySem.Spec PyProof.Rows L2 DL
theorem bx_mem {ks : List (List Int)} {k : Nat} (h : k < ks.length) : bxOf ks k ∈ ks := by
  unfold bxOf; rw [List.getD_eq_getElem?_getD, List.getElem?_eq_getElem h]; exact List.getElem_mem h
end TW
set_option Elab.async false
set_option linter.all false
set_option maxRecDepth 100000
set_option maxHeartbeats 4000000
namespace TW
open PySem PySem.Spec PyProof.Rows L2 DL
def atK (k : Nat) (c : List Int) : PyData := .tuple [.int (k : Int), tI c]
end TW
set_option Elab.async false
set_option linter.all false
set_option maxRecDepth 100000
set_option maxHeartbeats 4000000
namespace TW
open PySem PySem.Spec PyProof.Rows L2 DL
end TW
set_option Elab.async false
set_option linter.all false
set_option maxRecDepth 100000
set_option maxHeartbeats 4000000
namespace TW
open PySem PySem.Spec PyProof.Rows L2 DL
def boxesR (ks : List (List Int)) : List (List Int) → List Row → List (List Int)
  | bs, [] => bs
  | bs, r :: rs => boxesR ks (bs ++ [boxR ks bs r]) rs
def RowGood (kn n : Nat) (bs : List (List Int)) (r : Row) : Prop := RowIn kn n bs.length r ∧ ∀ ax i j, r = .two ax i j → agreeB (bxOf bs i) (bxOf bs j) ax = true
def ValidR (ks : List (List Int)) (n : Nat) : List (List Int) → List Row → Prop
  | _, [] => True
  | bs, r :: rs => RowGood ks.length n bs r ∧ ValidR ks n (bs ++ [boxR ks bs r]) rs
end TW
set_option Elab.async false
set_option linter.all false
set_option maxRecDepth 100000
set_option maxHeartbeats 4000000
namespace TW
open PySem PySem.Spec PyProof.Rows L2 DL
theorem valid_app (ks : List (List Int)) (n : Nat) : ∀ (xs ys : List Row) (bs : List (List Int)), ValidR ks n bs (xs ++ ys) ↔ ValidR ks n bs xs ∧ ValidR ks n (boxesR ks bs xs) ys
  | [], _, _ => ⟨fun h => ⟨trivial, h⟩, fun h => h.2⟩
  | x :: xs, ys, bs => by
    have := valid_app ks n xs ys (bs ++ [boxR ks bs x])
    show (RowGood ks.length n bs x ∧ ValidR ks n _ (xs ++ ys)) ↔ (RowGood ks.length n bs x ∧ ValidR ks n _ xs) ∧ ValidR ks n (boxesR ks (bs ++ [boxR ks bs x]) xs) ys
    rw [this, and_assoc]
theorem boxesR_ext (ks : List (List Int)) : ∀ (xs : List Row) (bs : List (List Int)), ∃ t, boxesR ks bs xs = bs ++ t ∧ t.length = xs.length
  | [], bs => ⟨[], by simp [boxesR], rfl⟩
  | x :: xs, bs => by
    obtain ⟨t, e, l⟩ := boxesR_ext ks xs (bs ++ [boxR ks bs x])
    exact ⟨boxR ks bs x :: t, by show boxesR ks (bs ++ [boxR ks bs x]) xs = _; rw [e]; simp, by simp [l]⟩
theorem boxesR_len (ks : List (List Int)) (xs : List Row) (bs : List (List Int)) : (boxesR ks bs xs).length = bs.length + xs.length := by
  obtain ⟨t, e, l⟩ := boxesR_ext ks xs bs
  rw [e, List.length_append, l]
theorem valid_take {ks : List (List Int)} {n : Nat} {rs : List Row} (h : ValidR ks n [] rs) (m : Nat) : ValidR ks n [] (rs.take m) := by
  have := (valid_app ks n (rs.take m) (rs.drop m) []).mp (by rw [List.take_append_drop]; exact h)
  exact this.1
structure Bm (n : Nat) (m : Int) (bs : List (List Int)) : Prop where
  ok : ∀ b ∈ bs, b.length = n ∧ In m b
theorem Bm.at {n : Nat} {m : Int} {bs : List (List Int)} (h : Bm n m bs) {i : Nat} (hi : i < bs.length) : bs[i]? = some (bxOf bs i) ∧ (bxOf bs i).length = n ∧ In m (bxOf bs i) := by
  have e : bxOf bs i = bs[i] := by unfold bxOf; rw [List.getD_eq_getElem?_getD, List.getElem?_eq_getElem hi]; rfl
  exact ⟨by rw [e, List.getElem?_eq_getElem hi], by rw [e]; exact h.ok _ (List.getElem_mem hi)⟩
theorem Bm.snoc {n : Nat} {m : Int} {bs : List (List Int)} (h : Bm n m bs) {b : List Int} (l : b.length = n) (i : In m b) : Bm n m (bs ++ [b]) := ⟨fun x hx => by
  rcases List.mem_append.mp hx with q | q
  · exact h.ok x q
  · rw [List.mem_singleton.mp q]; exact ⟨l, i⟩⟩
theorem In.small {m : Int} {p : List Int} (h : In m p) (hm : m ≤ 10 ^ 12) : ∀ x ∈ p, -(2 ^ 64) < x ∧ x < 2 ^ 64 := fun x hx => by have := h x hx; omega
end TW
set_option Elab.async false
set_option linter.all false
set_option maxRecDepth 100000
set_option maxHeartbeats 4000000
namespace TW
open PySem PySem.Spec PyProof.Rows L2 DL
def wtR (ws : List Nat) : Row → Nat
  | .one _ => 1
  | .two _ i j => ws.getD i 0 + ws.getD j 0 + 1
def wtsR : List Nat → List Row → List Nat
  | ws, [] => ws
  | ws, r :: rs => wtsR (ws ++ [wtR ws r]) rs
def plD (p : Nat × List Int) : PyData := .tuple [.int (p.1 : Int), tI p.2]
abbrev Pl (n : Nat) (ks : List (List Int)) (rs : List Row) : Prop := Kd n ks ∧ ValidR ks n [] rs ∧ 0 < rs.length ∧ rs.length ≤ 1100
end TW
set_option Elab.async false
set_option linter.all false
set_option maxRecDepth 100000
set_option maxHeartbeats 4000000
namespace TW
open PySem PySem.Spec PyProof.Rows L2 DL
theorem boxes_bd {ks : List (List Int)} {n : Nat} (hk : Kd n ks) : ∀ (rs : List Row) (bs : List (List Int)) (m : Int), 10 ^ 12 ≤ m → (∀ b ∈ bs, b.length = n ∧ In m b) → ValidR ks n bs rs → ∀ b ∈ boxesR ks bs rs, b.length = n ∧ In (m * 2 ^ rs.length) b
  | [], bs, m, _, h, _, b, hb => by
    rw [List.length_nil, Int.pow_zero, Int.mul_one]; exact h b hb
  | r :: rs, bs, m, hm, h, v, b, hb => by
    have e : m * 2 ^ (r :: rs).length = (2 * m) * 2 ^ rs.length := by
      rw [List.length_cons, Int.pow_succ, Int.mul_comm (2 ^ rs.length) 2, ← Int.mul_assoc, Int.mul_comm m 2]
    rw [e]
    have bm : Bm n m bs := ⟨h⟩
    refine boxes_bd hk rs (bs ++ [boxR ks bs r]) (2 * m) (by omega) (fun x hx => ?_) v.2 b hb
    rcases List.mem_append.mp hx with q | q
    · obtain ⟨h1, h2⟩ := h x q
      exact ⟨h1, fun y hy => by have := h2 y hy; omega⟩
    · rw [List.mem_singleton.mp q]
      have g := v.1.1
      cases r with
      | one k =>
        obtain ⟨_, l1, b1⟩ := hk.at (i := k) g
        exact ⟨l1, fun y hy => by have := b1 y hy; omega⟩
      | two ax i j =>
        obtain ⟨hx, hi, hj⟩ := g
        obtain ⟨_, l1, b1⟩ := bm.at hi
        obtain ⟨_, l2, b2⟩ := bm.at hj
        have c1 := b1 _ (gi_mem (show ax < (bxOf bs i).length by omega))
        have c2 := b2 _ (gi_mem (show ax < (bxOf bs j).length by omega))
        exact ⟨by show ((bxOf bs i).set ax _).length = n; rw [List.length_set]; exact l1, In.set (fun y hy => by have := b1 y hy; omega) (by omega) (by omega)⟩
theorem Pl.bs {n : Nat} {ks : List (List Int)} {rs : List Row} (h : Pl n ks rs) (m : Nat) : Bs n (boxesR ks [] (rs.take m)) := by
  obtain ⟨hk, hv, _, hl⟩ := h
  have q := boxes_bd hk (rs.take m) [] (10 ^ 12) (Int.le_refl _) (by simp) (valid_take hv m)
  have le : (10 ^ 12 : Int) * 2 ^ (rs.take m).length ≤ 10 ^ 400 := by
    have : (rs.take m).length ≤ 1100 := by rw [List.length_take]; omega
    have p : (2 : Int) ^ (rs.take m).length ≤ 2 ^ 1100 := by
      have q := Nat.pow_le_pow_right (show 0 < 2 by decide) this
      have q2 : ((2 ^ (rs.take m).length : Nat) : Int) ≤ ((2 ^ 1100 : Nat) : Int) := Int.ofNat_le.mpr q
      rw [Int.natCast_pow, Int.natCast_pow] at q2
      exact q2
    have p2 : (10 ^ 12 : Int) * 2 ^ 1100 ≤ 10 ^ 400 := by decide +kernel
    have := Int.mul_le_mul_of_nonneg_left p (show (0 : Int) ≤ 10 ^ 12 by decide)
    exact Int.le_trans this p2
  exact ⟨fun b hb => (q b hb).1, fun b hb x hx => by have := (q b hb).2 x hx; exact ⟨this.1, Int.le_trans this.2 le⟩⟩
theorem take_snoc {rs : List Row} {d : Nat} (h : d < rs.length) : rs.take (d + 1) = rs.take d ++ [rs.getD d (.one 0)] := by
  rw [List.take_succ, List.getElem?_eq_getElem h, List.getD_eq_getElem?_getD, List.getElem?_eq_getElem h]; rfl
theorem Pl.row {n : Nat} {ks : List (List Int)} {rs : List Row} (h : Pl n ks rs) {d : Nat} (hd : d < rs.length) : RowGood ks.length n (boxesR ks [] (rs.take d)) (rs.getD d (.one 0)) ∧ (boxesR ks [] (rs.take d)).length = d := by
  have v := valid_take h.2.1 (d + 1)
  rw [take_snoc hd, valid_app] at v
  refine ⟨v.2.1, ?_⟩
  rw [boxesR_len, List.length_take]; simp; omega
theorem wtsR_app : ∀ (xs ys : List Row) (ws : List Nat), wtsR ws (xs ++ ys) = wtsR (wtsR ws xs) ys
  | [], _, _ => rfl
  | x :: xs, ys, ws => wtsR_app xs ys _
theorem wtsR_ext : ∀ (xs : List Row) (ws : List Nat), ∃ t, wtsR ws xs = ws ++ t ∧ t.length = xs.length
  | [], ws => ⟨[], by simp [wtsR], rfl⟩
  | x :: xs, ws => by
    obtain ⟨t, e, l⟩ := wtsR_ext xs (ws ++ [wtR ws x])
    exact ⟨wtR ws x :: t, by show wtsR (ws ++ [wtR ws x]) xs = _; rw [e]; simp, by simp [l]⟩
theorem wts_at {rs : List Row} {d : Nat} (h : d < rs.length) : (wtsR [] rs).getD d 0 = wtR (wtsR [] (rs.take d)) (rs.getD d (.one 0)) ∧ ∀ i, i < d → (wtsR [] (rs.take d)).getD i 0 = (wtsR [] rs).getD i 0 := by
  have e := wtsR_app (rs.take (d + 1)) (rs.drop (d + 1)) []
  rw [List.take_append_drop, take_snoc h, wtsR_app] at e
  obtain ⟨t0, e0, l0⟩ := wtsR_ext (rs.take d) []
  have l0 : t0.length = d := by rw [l0, List.length_take]; omega
  obtain ⟨t, e2, _⟩ := wtsR_ext (rs.drop (d + 1)) (wtsR (wtsR [] (rs.take d)) [rs.getD d (.one 0)])
  rw [e2] at e
  have e3 : wtsR (wtsR [] (rs.take d)) [rs.getD d (.one 0)] = wtsR [] (rs.take d) ++ [wtR (wtsR [] (rs.take d)) (rs.getD d (.one 0))] := rfl
  rw [e3] at e
  have ll : (wtsR [] (rs.take d)).length = d := by rw [e0]; simpa using l0
  refine ⟨?_, fun i hi => ?_⟩
  · rw [e, List.getD_eq_getElem?_getD, List.append_assoc, List.getElem?_append_right (by omega), ll, Nat.sub_self]; rfl
  · rw [e, List.getD_eq_getElem?_getD, List.getD_eq_getElem?_getD, List.append_assoc, List.getElem?_append_left (by omega)]
structure StOk (n : Nat) (rs : List Row) (st : List (Nat × List Int)) : Prop where
  ix : ∀ p ∈ st, p.1 < rs.length ∧ p.2.length = n
theorem srt_pl (L : List (Nat × List Int)) : W.AllAlike (L.map plD) ∧ W.Sortable (L.map plD) ∧ ∀ d ∈ L.map plD, d.depth ≤ 50 := by
  refine ⟨W.AllAlike.of fun p q => ?_, .inl fun d hd => ?_, fun d hd => ?_⟩
  · show W.alike (.tuple [.int _, .tuple (p.2.map .int)]) (.tuple [.int _, .tuple (q.2.map .int)]) = true
    simp [W.alike, W.alikeAll, W.alike_ints]
  · obtain ⟨p, hp, rfl⟩ := List.mem_map.mp hd
    exact ⟨_, _, rfl⟩
  · obtain ⟨p, hp, rfl⟩ := List.mem_map.mp hd
    have := W.depth_ints p.2
    show PyData.depth (.tuple [.int _, .tuple (p.2.map .int)]) ≤ 50
    simp [PyData.depth, PyData.depthAll, this]
theorem Pl.two {n : Nat} {ks : List (List Int)} {rs : List Row} (h : Pl n ks rs) {d ax i j : Nat} (hd : d < rs.length) (e : rs.getD d (.one 0) = .two ax i j) : ax < n ∧ i < d ∧ j < d ∧ (wtsR [] rs).getD d 0 = (wtsR [] rs).getD i 0 + (wtsR [] rs).getD j 0 + 1 := by
  obtain ⟨⟨g, _⟩, lb⟩ := h.row hd
  rw [e, lb] at g
  obtain ⟨g1, g2, g3⟩ := g
  obtain ⟨w1, w2⟩ := wts_at hd
  refine ⟨g1, g2, g3, ?_⟩
  rw [w1, e]
  show _ + _ + 1 = _
  rw [w2 i g2, w2 j g3]
theorem Pl.all {n : Nat} {ks : List (List Int)} {rs : List Row} (h : Pl n ks rs) : Bs n (boxesR ks [] rs) ∧ (boxesR ks [] rs).length = rs.length := by
  have := h.bs rs.length
  rw [List.take_length] at this
  exact ⟨this, by rw [boxesR_len]; simp⟩
end TW
set_option Elab.async false
set_option linter.all false
set_option maxRecDepth 100000
set_option maxHeartbeats 4000000
namespace TW
open PySem PySem.Spec PyProof.Rows L2 DL
def quoF (sides brick : List Int) : List Int := List.zipWith (fun s o => s / o) sides brick
def rowF (brick begin cell : List Int) : List Int := (List.range brick.length).map fun i => gi begin i + gi cell i * gi brick i
abbrev flD (fl : List (Nat × List Int)) : List PyData := fl.map fun p => atK p.1 p.2
structure FL (ks : List (List Int)) (bx : List Int) (fl : List (Nat × List Int)) : Prop where
  fit : ∀ p ∈ fl, p.1 < ks.length ∧ Fits (bxOf ks p.1) bx p.2
  asc : fl.Pairwise fun p q => W.dataLt (atK p.1 p.2) (atK q.1 q.2) = true
  dis : fl.Pairwise fun p q => ∀ d, d ∈ covF (bxOf ks p.1) p.2 → d ∉ covF (bxOf ks q.1) q.2
  all : ∀ d ∈ cellsF bx, ∃ p ∈ fl, d ∈ covF (bxOf ks p.1) p.2
end TW
set_option Elab.async false
set_option linter.all false
set_option maxRecDepth 100000
set_option maxHeartbeats 4000000
namespace TW
open PySem PySem.Spec PyProof.Rows L2 DL
theorem alike_ints : ∀ {a b : List Int}, a.length = b.length → W.alikeAll (lI a) (lI b) = true
  | [], [], _ => by simp [W.alikeAll]
  | [], _ :: _, h => by simp at h
  | _ :: _, [], h => by simp at h
  | x :: a, y :: b, h => by
    have := alike_ints (a := a) (b := b) (by simpa using h)
    simp only [lI, List.map_cons, W.alikeAll, W.alike, Bool.true_and] at this ⊢
    exact this
theorem vol_le0 : ∀ {a b : List Int}, a.length = b.length → (∀ i, i < b.length → 0 ≤ gi a i ∧ gi a i ≤ gi b i) → 0 ≤ vol a ∧ vol a ≤ vol b
  | [], [], _, _ => by decide
  | [], _ :: _, h, _ => by simp at h
  | _ :: _, [], h, _ => by simp at h
  | x :: a, y :: b, hl, h => by
    obtain ⟨v1, v2⟩ := vol_le0 (a := a) (b := b) (by simpa using hl) fun i hi => h (i + 1) (by simp; omega)
    have h0 : 0 ≤ x ∧ x ≤ y := h 0 (by simp)
    rw [vol_cons, vol_cons]
    have m1 := Int.mul_le_mul h0.2 v2 (by omega) (by omega)
    have m2 := Int.mul_nonneg h0.1 v1
    omega
theorem gi_quo {sides brick : List Int} {i : Nat} (hs : i < sides.length) (hb : i < brick.length) : gi (quoF sides brick) i = gi sides i / gi brick i := by
  unfold gi quoF
  rw [List.getElem?_zipWith, List.getElem?_eq_getElem hs, List.getElem?_eq_getElem hb]
  rfl
theorem vol_side1 : ∀ {bx : List Int}, (∀ x ∈ bx, 1 ≤ x) → ∀ {i : Nat}, i < bx.length → vol bx ≤ 400 → gi bx i ≤ 400
  | [], _, i, h, _ => by simp at h
  | y :: bx, hb, i, hi, hv => by
    have y1 := hb y (by simp)
    have v1 := vol_pos (ns := bx) fun z hz => hb z (by simp [hz])
    rw [vol_cons] at hv
    cases i with
    | zero =>
      show y ≤ 400
      have := Int.mul_le_mul_of_nonneg_left v1 (show 0 ≤ y by omega)
      omega
    | succ i =>
      have := Int.mul_le_mul_of_nonneg_right y1 (show 0 ≤ vol bx by omega)
      show gi bx i ≤ 400
      exact vol_side1 (bx := bx) (i := i) (fun z hz => hb z (by simp [hz])) (by simpa using hi) (by omega)
theorem sort_strict {L : List PyData} (ha : W.AllAlike L) (hn : L.Nodup) : (sortD L).Pairwise fun a b => W.dataLt a b = true := by
  have p : (sortD L).Perm L := List.mergeSort_perm _ _
  have n2 : (sortD L).Nodup := p.nodup_iff.mpr hn
  have both := (sort_pw L).and n2
  refine both.imp_of_mem fun {a b} ma mb h => ?_
  obtain ⟨h1, h2⟩ := h
  apply Classical.byContradiction
  intro c
  have l2 : leD b a = true := by
    show (!W.dataLt a b) = true
    simpa using c
  exact h2 (leD_anti (ha _ (p.mem_iff.mp ma) _ (p.mem_iff.mp mb)) h1 l2)
theorem gi_row {b begin c : List Int} {i : Nat} (h : i < b.length) : gi (rowF b begin c) i = gi begin i + gi c i * gi b i := by
  unfold rowF
  exact gi_range h
theorem row_fit {b begin sides c : List Int} (l1 : sides.length = b.length) (hb : ∀ x ∈ b, 1 ≤ x) (hc : c ∈ cellsF (quoF sides b)) {i : Nat} (hi : i < b.length) :
    gi begin i ≤ gi (rowF b begin c) i ∧ gi (rowF b begin c) i + gi b i ≤ gi begin i + gi sides i := by
  have lq : (quoF sides b).length = b.length := by unfold quoF; simp [l1]
  obtain ⟨_, m⟩ := (mem_cells _ _ rfl c).mp hc
  have q := m i (by omega)
  rw [gi_quo (by omega) hi] at q
  have b1 := hb _ (gi_mem hi)
  rw [gi_row hi]
  have f := (floor_bd (gi sides i) b1).1
  have p1 := Int.mul_le_mul_of_nonneg_right (show gi c i + 1 ≤ gi sides i / gi b i by omega) (show 0 ≤ gi b i by omega)
  have p2 := Int.mul_nonneg q.1 (show 0 ≤ gi b i by omega)
  rw [Int.add_mul] at p1
  omega
theorem row_len {b begin c : List Int} : (rowF b begin c).length = b.length := by simp [rowF]
theorem row_cov {b begin sides d : List Int} (l1 : sides.length = b.length) (hb : ∀ x ∈ b, 1 ≤ x) (dv : ∀ i, i < b.length → gi b i ∣ gi sides i) (ld : d.length = b.length) (hd : ∀ i, i < b.length → gi begin i ≤ gi d i ∧ gi d i < gi begin i + gi sides i) :
    ∃ c ∈ cellsF (quoF sides b), d ∈ covF b (rowF b begin c) := by
  have lq : (quoF sides b).length = b.length := by unfold quoF; simp [l1]
  have g : ∀ i, i < b.length → gi ((List.range b.length).map fun i => (gi d i - gi begin i) / gi b i) i = (gi d i - gi begin i) / gi b i := fun i hi => gi_range hi
  refine ⟨(List.range b.length).map fun i => (gi d i - gi begin i) / gi b i, (mem_cells _ _ rfl _).mpr ⟨by simp [lq], fun i hi => ?_⟩, (mem_cov (by rw [row_len])).mpr ⟨ld, fun i hi => ?_⟩⟩
  · have hi : i < b.length := by omega
    have b1 := hb _ (gi_mem hi)
    have h := hd i hi
    rw [g i hi, gi_quo (by omega) hi]
    refine ⟨Int.ediv_nonneg (by omega) (by omega), ?_⟩
    obtain ⟨k, hk⟩ := dv i hi
    rw [hk, Int.mul_ediv_cancel_left _ (by omega)]
    refine Int.ediv_lt_of_lt_mul (by omega) ?_
    rw [Int.mul_comm k]
    omega
  · have b1 := hb _ (gi_mem hi)
    rw [gi_row hi, g i hi]
    have f := floor_bd (gi d i - gi begin i) b1
    omega
theorem row_uniq {b begin c c' d : List Int} (hb : ∀ x ∈ b, 1 ≤ x) (l1 : c.length = b.length) (l2 : c'.length = b.length) (h1 : d ∈ covF b (rowF b begin c)) (h2 : d ∈ covF b (rowF b begin c')) : c = c' := by
  obtain ⟨_, m1⟩ := (mem_cov (by rw [row_len])).mp h1
  obtain ⟨_, m2⟩ := (mem_cov (by rw [row_len])).mp h2
  refine gi_ext (by omega) fun i hi => ?_
  have hi : i < b.length := by omega
  have b1 := hb _ (gi_mem hi)
  have a1 := m1 i hi
  have a2 := m2 i hi
  rw [gi_row hi] at a1 a2
  have e1 := floor_eq (x := gi d i - gi begin i) (c := gi c i * gi b i) b1 (by rw [Int.mul_ediv_cancel _ (by omega)]) (by omega) (by omega)
  have e2 := floor_eq (x := gi d i - gi begin i) (c := gi c' i * gi b i) b1 (by rw [Int.mul_ediv_cancel _ (by omega)]) (by omega) (by omega)
  exact Int.eq_of_mul_eq_mul_right (by omega) (e1.symm.trans e2)
def flRows (k : Nat) (b begin sides : List Int) : List (Nat × List Int) := (cellsF (quoF sides b)).map fun c => (k, rowF b begin c)
theorem rows_dis {k : Nat} {b begin sides : List Int} (ks : List (List Int)) (hk : bxOf ks k = b) (l1 : sides.length = b.length) (hb : ∀ x ∈ b, 1 ≤ x) :
    (flRows k b begin sides).Pairwise fun p q => ∀ d, d ∈ covF (bxOf ks p.1) p.2 → d ∉ covF (bxOf ks q.1) q.2 := by
  unfold flRows
  rw [List.pairwise_map]
  have lq : (quoF sides b).length = b.length := by unfold quoF; simp [l1]
  have n := cells_nodup (quoF sides b)
  have al := cells_lens _ (quoF sides b) rfl
  unfold List.Nodup at n
  revert n al
  generalize cellsF (quoF sides b) = L
  intro n al
  refine n.imp_of_mem fun {x y} mx my hne d h1 h2 => hne ?_
  rw [hk] at h1 h2
  exact row_uniq hb (by rw [al x mx, lq]) (by rw [al y my, lq]) h1 h2
theorem gi_rep0 {n i : Nat} (h : i < n) : gi (List.replicate n 0) i = 0 := by
  unfold gi
  rw [List.getElem?_replicate, if_pos h]; rfl
end TW
set_option Elab.async false
set_option linter.all false
set_option maxRecDepth 100000
set_option maxHeartbeats 4000000
namespace TW
open PySem PySem.Spec PyProof.Rows L2 DL
abbrev Pl1 := Nat × List Int
structure FL0 (ks : List (List Int)) (bx : List Int) (fl : List Pl1) : Prop where
  fit : ∀ p ∈ fl, p.1 < ks.length ∧ Fits (bxOf ks p.1) bx p.2
  dis : fl.Pairwise fun p q => ∀ d, d ∈ covF (bxOf ks p.1) p.2 → d ∉ covF (bxOf ks q.1) q.2
  all : ∀ d ∈ cellsF bx, ∃ p ∈ fl, d ∈ covF (bxOf ks p.1) p.2
theorem FL.to0 {ks : List (List Int)} {bx : List Int} {fl : List Pl1} (h : FL ks bx fl) : FL0 ks bx fl := ⟨h.fit, h.dis, h.all⟩
theorem FL0.perm {ks : List (List Int)} {bx : List Int} {fl lo : List Pl1} (h : FL0 ks bx fl) (pm : lo.Perm fl) : FL0 ks bx lo :=
  ⟨fun r hr => h.fit r (pm.mem_iff.mp hr), (pm.pairwise_iff (fun {x y} h d h1 h2 => h d h2 h1)).mpr h.dis, fun d hd => by
    obtain ⟨r, hr, hm⟩ := h.all d hd
    exact ⟨r, pm.mem_iff.mpr hr, hm⟩⟩
theorem kin_at {ks : List (List Int)} {bx : List Int} (hk : Kin ks bx) {k : Nat} (h : k < ks.length) : (bxOf ks k).length = bx.length ∧ ∀ x ∈ bxOf ks k, 1 ≤ x := hk _ (bx_mem h)
theorem FL0.corner {ks : List (List Int)} {bx : List Int} {fl : List Pl1} (h : FL0 ks bx fl) (hk : Kin ks bx) {p : Pl1} (hp : p ∈ fl) : p.2 ∈ covF (bxOf ks p.1) p.2 := by
  obtain ⟨f1, f2⟩ := h.fit p hp
  obtain ⟨k1, k2⟩ := kin_at hk f1
  exact corner_in (by rw [f2.1, k1]) k2
theorem atK_inj {j k : Nat} {a b : List Int} (e : atK j a = atK k b) : j = k ∧ a = b := by
  unfold atK at e
  simp only [PyData.tuple.injEq, List.cons.injEq, PyData.int.injEq, and_true, tI] at e
  obtain ⟨e1, e2⟩ := e
  have e2 : lI a = lI b := e2
  have : a = b := by
    refine (List.map_inj_right ?_).mp e2
    intro a b h
    exact PyData.int.inj h
  exact ⟨by omega, this⟩
theorem flD_inj : ∀ {a b : List Pl1}, flD a = flD b → a = b
  | [], [], _ => rfl
  | [], _ :: _, h => by simp [flD] at h
  | _ :: _, [], h => by simp [flD] at h
  | x :: a, y :: b, h => by
    have h : atK x.1 x.2 :: flD a = atK y.1 y.2 :: flD b := h
    obtain ⟨h1, h2⟩ := List.cons.inj h
    obtain ⟨e1, e2⟩ := atK_inj h1
    rw [flD_inj h2, Prod.ext e1 e2]
theorem FL0.nodupD {ks : List (List Int)} {bx : List Int} {fl : List Pl1} (h : FL0 ks bx fl) (hk : Kin ks bx) : (flD fl).Nodup := by
  unfold List.Nodup flD
  rw [List.pairwise_map]
  refine h.dis.imp_of_mem fun {x y} mx my hd e => ?_
  obtain ⟨e1, e2⟩ := atK_inj e
  have e : x = y := Prod.ext e1 e2
  subst e
  exact hd _ (h.corner hk mx) (h.corner hk mx)
def srtF (fl : List Pl1) : List Pl1 := fl.mergeSort fun a b => leD (atK a.1 a.2) (atK b.1 b.2)
theorem srtF_perm (fl : List Pl1) : (srtF fl).Perm fl := List.mergeSort_perm _ _
theorem srtF_D (fl : List Pl1) : flD (srtF fl) = sortD (flD fl) := by
  unfold flD sortD srtF
  exact List.map_mergeSort fun a _ b _ => rfl
theorem FL0.sort {ks : List (List Int)} {bx : List Int} {fl : List Pl1} (h : FL0 ks bx fl) (hk : Kin ks bx) : FL ks bx (srtF fl) := by
  have h2 := h.perm (srtF_perm fl)
  refine ⟨h2.fit, ?_, h2.dis, h2.all⟩
  have := sort_strict (srt_pl fl).1 (h.nodupD hk)
  have this : (flD (srtF fl)).Pairwise fun a b => W.dataLt a b = true := by rw [srtF_D]; exact this
  unfold flD at this
  rwa [List.pairwise_map] at this
theorem lt_le {a b : PyData} (h : W.dataLt a b = true) : leD a b = true := by
  show (!W.dataLt b a) = true
  cases h2 : W.dataLt b a with
  | false => rfl
  | true =>
    have := lex_trans (O := itemOrd) _ _ _ h h2
    rw [lex_irrefl] at this; cases this
theorem FL.sorted {ks : List (List Int)} {bx : List Int} {fl : List Pl1} (h : FL ks bx fl) : sortD (flD fl) = flD fl := by
  unfold sortD
  refine List.mergeSort_of_pairwise ?_
  unfold flD
  rw [List.pairwise_map]
  exact h.asc.imp fun {a b} h => lt_le h
theorem FL.unique {ks ks' : List (List Int)} {bx bx' : List Int} {fl fl' : List Pl1} (h : FL ks bx fl) (h' : FL ks' bx' fl') (pm : fl.Perm fl') : fl = fl' := by
  refine flD_inj ?_
  rw [← h.sorted, ← h'.sorted]
  exact sort_perm (srt_pl fl).1 (pm.map _)
theorem nodup_le : ∀ {l m : List (List Int)}, l.Nodup → (∀ x ∈ l, x ∈ m) → l.length ≤ m.length
  | [], m, _, _ => by simp
  | x :: l, m, hn, h => by
    obtain ⟨n1, n2⟩ := List.nodup_cons.mp hn
    have hx := h x (by simp)
    have := nodup_le (l := l) (m := m.erase x) n2 fun y hy => by
      have ne : y ≠ x := fun e => n1 (by rw [← e]; exact hy)
      exact (List.mem_erase_of_ne ne).mpr (h y (by simp [hy]))
    rw [List.length_erase_of_mem hx] at this
    have := List.length_pos_of_mem hx
    simp; omega
theorem FL0.len {ks : List (List Int)} {bx : List Int} {fl : List Pl1} (h : FL0 ks bx fl) (hk : Kin ks bx) : fl.length ≤ (cellsF bx).length := by
  have := nodup_le (l := fl.map (·.2)) (m := cellsF bx) (by
    unfold List.Nodup
    rw [List.pairwise_map]
    refine h.dis.imp_of_mem fun {x y} mx my hd e => ?_
    have c1 := h.corner hk mx
    have c2 := h.corner hk my
    rw [← e] at c2
    exact hd _ c1 (by rw [← e]; exact c2)) fun c hc => by
    obtain ⟨p, hp, rfl⟩ := List.mem_map.mp hc
    obtain ⟨f1, f2⟩ := h.fit p hp
    exact fits_in (kin_at hk f1).1 f2 (h.corner hk hp)
  rwa [List.length_map] at this
theorem FL0.lenV {ks : List (List Int)} {bx : List Int} {fl : List Pl1} (h : FL0 ks bx fl) (hk : Kin ks bx) (hb : ∀ x ∈ bx, 0 ≤ x) : (fl.length : Int) ≤ vol bx := by
  have := h.len hk
  have := cells_len _ bx rfl hb
  omega
def movA (ax : Nat) (z : Int) (p : Pl1) : Pl1 := (p.1, p.2.set ax (gi p.2 ax + z))
theorem cov_movA {b c d : List Int} {ax : Nat} {z : Int} (h : c.length = b.length) (hx : ax < b.length) : d ∈ covF b (c.set ax (gi c ax + z)) ↔ d.length = b.length ∧ d.set ax (gi d ax - z) ∈ covF b c := by
  rw [mem_cov (by simpa using h), mem_cov h]
  constructor
  · rintro ⟨h1, h2⟩
    refine ⟨h1, by simpa using h1, fun i hi => ?_⟩
    have := h2 i hi
    rw [gi_set (by omega)] at this ⊢
    split at this
    · rename_i e; rw [if_pos e]; subst e; omega
    · rename_i e; rw [if_neg e]; omega
  · rintro ⟨h1, _, h2⟩
    refine ⟨h1, fun i hi => ?_⟩
    have := h2 i hi
    rw [gi_set (by omega)] at this ⊢
    split at this
    · rename_i e; rw [if_pos e]; subst e; omega
    · rename_i e; rw [if_neg e]; omega
theorem gi_set_eq {l : List Int} {ax : Nat} {y : Int} (h : ax < l.length) : gi (l.set ax y) ax = y := by rw [gi_set h, if_pos rfl]
theorem gi_set_ne {l : List Int} {ax i : Nat} {y : Int} (h : i < l.length) (hn : i ≠ ax) : gi (l.set ax y) i = gi l i := by rw [gi_set h, if_neg hn]
theorem FL0.put {ks : List (List Int)} {bx : List Int} {ax : Nat} {z m : Int} {f1 f2 : List Pl1} (hk : Kin ks bx) (hx : ax < bx.length) (z0 : 0 ≤ z) (m0 : 0 ≤ m) (h1 : FL0 ks (bx.set ax z) f1) (h2 : FL0 ks (bx.set ax m) f2) :
    FL0 ks (bx.set ax (z + m)) (f1 ++ f2.map (movA ax z)) := by
  have k1 := fun {k} h => kin_at (k := k) hk h
  refine ⟨fun p hp => ?_, List.pairwise_append.mpr ⟨h1.dis, ?_, fun x hxm y hym d d1 d2 => ?_⟩, fun d hd => ?_⟩
  · rcases List.mem_append.mp hp with q | q
    · obtain ⟨a, b, c⟩ := h1.fit p q
      refine ⟨a, by simpa using b, fun i hi => ?_⟩
      have hi2 : i < bx.length := by simpa using hi
      have := c i (by simpa using hi)
      by_cases e : i = ax
      · subst e
        rw [gi_set_eq hi2] at this ⊢
        omega
      · rw [gi_set_ne hi2 e] at this ⊢
        omega
    · obtain ⟨r, hr, rfl⟩ := List.mem_map.mp q
      obtain ⟨a, b, c⟩ := h2.fit r hr
      have bl : r.2.length = bx.length := by simpa using b
      refine ⟨a, by simpa [movA] using bl, fun i hi => ?_⟩
      have hi2 : i < bx.length := by simpa using hi
      have := c i (by simpa using hi)
      show 0 ≤ gi (r.2.set ax (gi r.2 ax + z)) i ∧ gi (r.2.set ax (gi r.2 ax + z)) i + gi (bxOf ks r.1) i ≤ _
      by_cases e : i = ax
      · subst e
        rw [gi_set_eq hi2] at this ⊢
        rw [gi_set_eq (by omega)]
        omega
      · rw [gi_set_ne hi2 e] at this ⊢
        rw [gi_set_ne (by omega) e]
        omega
  · rw [List.pairwise_map]
    refine h2.dis.imp_of_mem fun {x y} mx my hd d d1 d2 => ?_
    obtain ⟨a, b, c⟩ := h2.fit x mx
    obtain ⟨a', b', c'⟩ := h2.fit y my
    have d1 : d ∈ covF (bxOf ks x.1) (x.2.set ax (gi x.2 ax + z)) := d1
    have d2 : d ∈ covF (bxOf ks y.1) (y.2.set ax (gi y.2 ax + z)) := d2
    have l1 : x.2.length = bx.length := by simpa using b
    have l2 : y.2.length = bx.length := by simpa using b'
    rw [cov_movA (by rw [l1, (k1 a).1]) (by rw [(k1 a).1]; exact hx)] at d1
    rw [cov_movA (by rw [l2, (k1 a').1]) (by rw [(k1 a').1]; exact hx)] at d2
    exact hd _ d1.2 d2.2
  · obtain ⟨r, hr, rfl⟩ := List.mem_map.mp hym
    obtain ⟨a, b, c⟩ := h1.fit x hxm
    obtain ⟨a', b', c'⟩ := h2.fit r hr
    have l1 : x.2.length = bx.length := by simpa using b
    have l2 : r.2.length = bx.length := by simpa using b'
    have d2 : d ∈ covF (bxOf ks r.1) (r.2.set ax (gi r.2 ax + z)) := d2
    have p1 := ((mem_cov (by rw [l1, (k1 a).1])).mp d1).2 ax (by rw [(k1 a).1]; exact hx)
    have p2 := ((mem_cov (by simp [l2, (k1 a').1])).mp d2).2 ax (by rw [(k1 a').1]; exact hx)
    rw [gi_set_eq (by omega)] at p2
    have q1 := c ax (by simpa using hx)
    have q2 := c' ax (by simpa using hx)
    rw [gi_set_eq hx] at q1
    omega
  · obtain ⟨dl, dm⟩ := (mem_cells _ _ rfl d).mp hd
    have dl : d.length = bx.length := by simpa using dl
    have dx := dm ax (by simpa using hx)
    rw [gi_set_eq hx] at dx
    have other : ∀ i, i < bx.length → i ≠ ax → 0 ≤ gi d i ∧ gi d i < gi bx i := fun i hi e => by
      have := dm i (by simpa using hi)
      rwa [gi_set_ne hi e] at this
    by_cases c : gi d ax < z
    · obtain ⟨p, hp, hm⟩ := h1.all d ((mem_cells _ _ rfl d).mpr ⟨by simpa using dl, fun i hi => by
        have hi2 : i < bx.length := by simpa using hi
        by_cases e : i = ax
        · subst e; rw [gi_set_eq hi2]; omega
        · rw [gi_set_ne hi2 e]; exact other i hi2 e⟩)
      exact ⟨p, List.mem_append.mpr (.inl hp), hm⟩
    · obtain ⟨p, hp, hm⟩ := h2.all (d.set ax (gi d ax - z)) ((mem_cells _ _ rfl _).mpr ⟨by simpa using dl, fun i hi => by
        have hi2 : i < bx.length := by simpa using hi
        by_cases e : i = ax
        · subst e; rw [gi_set_eq hi2, gi_set_eq (by omega)]; omega
        · rw [gi_set_ne hi2 e, gi_set_ne (by omega) e]; exact other i hi2 e⟩)
      obtain ⟨a, b, _⟩ := h2.fit p hp
      have l2 : p.2.length = bx.length := by simpa using b
      refine ⟨movA ax z p, List.mem_append.mpr (.inr (List.mem_map.mpr ⟨p, hp, rfl⟩)), ?_⟩
      show d ∈ covF (bxOf ks p.1) (p.2.set ax (gi p.2 ax + z))
      rw [cov_movA (by rw [l2, (k1 a).1]) (by rw [(k1 a).1]; exact hx)]
      exact ⟨by rw [(k1 a).1]; exact dl, hm⟩
theorem FL0.rows {ks : List (List Int)} {sides : List Int} {k : Nat} (hk : Kin ks sides) (h : k < ks.length) (hd : ∀ i, i < sides.length → gi (bxOf ks k) i ∣ gi sides i) : FL0 ks sides (flRows k (bxOf ks k) (List.replicate sides.length 0) sides) := by
  obtain ⟨l1, b1⟩ := kin_at hk h
  refine ⟨fun p hp => ?_, rows_dis ks rfl l1.symm b1, fun d hm => ?_⟩
  · obtain ⟨c, hc, rfl⟩ := List.mem_map.mp hp
    refine ⟨h, by rw [row_len, l1], fun i hi => ?_⟩
    have := row_fit (begin := List.replicate sides.length 0) l1.symm b1 hc (show i < (bxOf ks k).length by omega)
    rw [gi_rep0 hi] at this
    show 0 ≤ gi (rowF _ _ c) i ∧ gi (rowF _ _ c) i + gi (bxOf ks k) i ≤ _
    omega
  · obtain ⟨dl, dm⟩ := (mem_cells _ _ rfl d).mp hm
    obtain ⟨c, hc, hcv⟩ := row_cov (b := bxOf ks k) (begin := List.replicate sides.length 0) (sides := sides) (d := d) l1.symm b1 (fun i hi => hd i (by omega)) (by omega) fun i hi => by
      have := dm i (by omega)
      rw [gi_rep0 (by omega)]
      omega
    exact ⟨_, List.mem_map.mpr ⟨c, hc, rfl⟩, hcv⟩
def kindA (f : Nat → Nat) (p : Pl1) : Pl1 := (f p.1, p.2)
theorem FL0.kinds {ks ks' : List (List Int)} {bx : List Int} {f : Nat → Nat} {fl : List Pl1} (h : FL0 ks bx fl) (hf : ∀ k, k < ks.length → f k < ks'.length ∧ bxOf ks' (f k) = bxOf ks k) : FL0 ks' bx (fl.map (kindA f)) := by
  refine ⟨fun p hp => ?_, ?_, fun d hd => ?_⟩
  · obtain ⟨r, hr, rfl⟩ := List.mem_map.mp hp
    obtain ⟨a, b⟩ := h.fit r hr
    obtain ⟨c, e⟩ := hf _ a
    exact ⟨c, by show Fits (bxOf ks' (f r.1)) bx r.2; rw [e]; exact b⟩
  · rw [List.pairwise_map]
    refine h.dis.imp_of_mem fun {x y} mx my hd d d1 d2 => ?_
    have e1 := (hf _ (h.fit x mx).1).2
    have e2 := (hf _ (h.fit y my).1).2
    exact hd d (by rw [← e1]; exact d1) (by rw [← e2]; exact d2)
  · obtain ⟨r, hr, hm⟩ := h.all d hd
    exact ⟨kindA f r, List.mem_map.mpr ⟨r, hr, rfl⟩, by show d ∈ covF (bxOf ks' (f r.1)) r.2; rw [(hf _ (h.fit r hr).1).2]; exact hm⟩
theorem lx_lt : ∀ {a b : List Int}, a.length = b.length → lx a b → a < b
  | [], [], _, h => by simp [lx] at h
  | [], _ :: _, h, _ => by simp at h
  | _ :: _, [], h, _ => by simp at h
  | x :: a, y :: b, hl, h => by
    rw [List.cons_lt_cons_iff]
    rcases h with h | ⟨rfl, h⟩
    · exact .inl h
    · exact .inr ⟨rfl, lx_lt (by simpa using hl) h⟩
theorem lx_iff : ∀ {x y : List Int}, x.length = y.length → (lx x y ↔ ∃ i, i < x.length ∧ (∀ j, j < i → gi x j = gi y j) ∧ gi x i < gi y i)
  | [], [], _ => by simp [lx]
  | [], _ :: _, h => by simp at h
  | _ :: _, [], h => by simp at h
  | x :: a, y :: b, hl => by
    have ih := lx_iff (x := a) (y := b) (by simpa using hl)
    constructor
    · rintro (h | ⟨rfl, h⟩)
      · exact ⟨0, by simp, fun j hj => by omega, h⟩
      · obtain ⟨i, h1, h2, h3⟩ := ih.mp h
        refine ⟨i + 1, by simpa using h1, fun j hj => ?_, h3⟩
        cases j with
        | zero => rfl
        | succ j => exact h2 j (by omega)
    · rintro ⟨i, h1, h2, h3⟩
      cases i with
      | zero => exact .inl h3
      | succ i =>
        have h0 : x = y := h2 0 (by omega)
        exact .inr ⟨h0, ih.mpr ⟨i, by simpa using h1, fun j hj => h2 (j + 1) (by omega), h3⟩⟩
theorem lt_atK {k : Nat} {a b : List Int} (hl : a.length = b.length) (h : lx a b) : W.dataLt (atK k a) (atK k b) = true := by
  unfold atK
  have al : W.alike (tI a) (tI b) = true := by
    have := alike_ints hl
    unfold tI
    simpa [W.alike] using this
  rw [W.dataLt_pair (by simp [W.alike]) al, if_pos (by simp [PyData.eqv])]
  have ne : PyData.eqv (tI a) (tI b) = false := by
    cases e : PyData.eqv (tI a) (tI b) with
    | false => rfl
    | true =>
      have e2 := eq_of_eqv _ _ al e
      have e3 : a = b := (atK_inj (j := 0) (k := 0) (by unfold atK; rw [e2])).2
      subst e3
      exact (lx_ge h rfl fun i _ => Int.le_refl _).elim
  rw [ne, if_neg Bool.false_ne_true]
  unfold tI
  rw [W.dataLt_tuple]
  show W.rowLt (lI a) (lI b) = true
  unfold lI
  rw [W.dataLt_ints]
  exact decide_eq_true (lx_lt hl h)
theorem FL.rows {ks : List (List Int)} {sides : List Int} {k : Nat} (hk : Kin ks sides) (h : k < ks.length) (hd : ∀ i, i < sides.length → gi (bxOf ks k) i ∣ gi sides i) : FL ks sides (flRows k (bxOf ks k) (List.replicate sides.length 0) sides) := by
  have h0 := FL0.rows hk h hd
  obtain ⟨l1, b1⟩ := kin_at hk h
  refine ⟨h0.fit, ?_, h0.dis, h0.all⟩
  unfold flRows
  rw [List.pairwise_map]
  have so := cells_sorted (quoF sides (bxOf ks k))
  rw [← cells_eq] at so
  have lq : (quoF sides (bxOf ks k)).length = sides.length := by unfold quoF; simp [l1]
  have al := cells_lens _ (quoF sides (bxOf ks k)) rfl
  refine so.imp_of_mem fun {x y} mx my hxy => ?_
  have lx1 := al x mx
  have ly1 := al y my
  refine lt_atK (by rw [row_len, row_len]) ?_
  rw [lx_iff (by omega)] at hxy
  rw [lx_iff (by rw [row_len, row_len])]
  obtain ⟨i, h1, h2, h3⟩ := hxy
  refine ⟨i, by rw [row_len]; omega, fun j hj => ?_, ?_⟩
  · rw [gi_row (by omega), gi_row (by omega), h2 j hj]
  · rw [gi_row (by omega), gi_row (by omega)]
    have := b1 _ (gi_mem (show i < (bxOf ks k).length by omega))
    have := Int.mul_lt_mul_of_pos_right h3 (show 0 < gi (bxOf ks k) i by omega)
    omega
end TW
set_option Elab.async false
set_option linter.all false
set_option maxRecDepth 100000
set_option maxHeartbeats 4000000
namespace TW
open PySem PySem.Spec PyProof.Rows L2 DL
abbrev Dv (n : Nat) (p q : List Int) : Prop := ∀ i, i < n → gi p i ∣ gi q i
structure Br (n : Nat) (p : List Int) : Prop where
  l : p.length = n
  p : ∀ i, i < n → 1 ≤ gi p i
theorem Dv.le {n : Nat} {p q : List Int} (h : Dv n p q) (b : Br n q) {i : Nat} (hi : i < n) : gi p i ≤ gi q i := Int.le_of_dvd (by have := b.p i hi; omega) (h i hi)
theorem Dv.eq {n : Nat} {p q : List Int} (bp : Br n p) (bq : Br n q) (h : Dv n p q) (g : Dv n q p) : p = q := by
  refine gi_ext (by rw [bp.l, bq.l]) fun i hi => ?_
  rw [bp.l] at hi
  exact Int.le_antisymm (h.le bq hi) (g.le bp hi)
end TW
set_option Elab.async false
set_option linter.all false
set_option maxRecDepth 100000
set_option maxHeartbeats 4000000
namespace TW
open PySem PySem.Spec PyProof.Rows L2 DL
end TW
set_option Elab.async false
set_option linter.all false
set_option maxRecDepth 100000
set_option maxHeartbeats 4000000
namespace TW
open PySem PySem.Spec PyProof.Rows L2 DL
end TW
set_option Elab.async false
set_option linter.all false
set_option maxRecDepth 100000
set_option maxHeartbeats 4000000
namespace TW
open PySem PySem.Spec PyProof.Rows L2 DL
end TW
set_option Elab.async false
set_option linter.all false
set_option maxRecDepth 100000
set_option maxHeartbeats 4000000
namespace TW
open PySem PySem.Spec PyProof.Rows L2 DL
end TW
set_option Elab.async false
set_option linter.all false
set_option maxRecDepth 100000
set_option maxHeartbeats 4000000
namespace TW
open PySem PySem.Spec PyProof.Rows L2 DL
end TW
set_option Elab.async false
set_option linter.all false
set_option maxRecDepth 100000
set_option maxHeartbeats 4000000
namespace TW
open PySem PySem.Spec PyProof.Rows L2 DL
theorem shp_inF {p : List Int} (h : In (10 ^ 12) p) (hl : p.length ≤ 4) : Shp false 1 400 (tI p) :=
  (Shp.tuple (shp_ints (k := 64) (L := 4) hl fun x hx => log_le (by have := h x hx; omega) (by have := h x hx; omega))).mono (by decide) (by decide)
theorem gi_get {l : List Int} {i : Nat} (h : i < l.length) : gi l i = l[i] := by unfold gi; rw [List.getElem?_eq_getElem h]; rfl
structure Fd (ks : List (List Int)) (bx : List Int) (fl : List Pl1) : Prop where
  k4 : ks.length ≤ 4
  kk : ∀ b ∈ ks, b.length = bx.length ∧ In (10 ^ 12) b
  l0 : 0 < bx.length
  l4 : bx.length ≤ 4
  hb : ∀ x ∈ bx, 1 ≤ x
  hv : vol bx ≤ 400
  h : FL ks bx fl
section
variable {ks : List (List Int)} {bx : List Int} {fl : List Pl1}
theorem Fd.kin (d : Fd ks bx fl) : Kin ks bx := fun b hb => by
  obtain ⟨q1, q2⟩ := d.kk b hb
  exact ⟨q1, fun x hx => (q2 x hx).1⟩
theorem Fd.len (d : Fd ks bx fl) : fl.length ≤ 400 := by
  have := d.h.to0.lenV d.kin fun x hx => by have := d.hb x hx; omega
  have := d.hv
  omega
theorem Fd.side (d : Fd ks bx fl) {i : Nat} (hi : i < bx.length) : 1 ≤ gi bx i ∧ gi bx i ≤ 400 := ⟨d.hb _ (gi_mem hi), vol_side1 d.hb hi d.hv⟩
theorem Fd.at (d : Fd ks bx fl) {p : Pl1} (hp : p ∈ fl) : p.1 < ks.length ∧ p.2.length = bx.length ∧ (bxOf ks p.1).length = bx.length ∧ ∀ i, i < bx.length → 0 ≤ gi p.2 i ∧ gi p.2 i + gi (bxOf ks p.1) i ≤ gi bx i ∧ 1 ≤ gi (bxOf ks p.1) i := by
  obtain ⟨f1, f2, f3⟩ := d.h.fit p hp
  obtain ⟨k1, k2⟩ := kin_at d.kin f1
  exact ⟨f1, f2, k1, fun i hi => by
    have := f3 i hi
    have := k2 _ (gi_mem (show i < (bxOf ks p.1).length by omega))
    omega⟩
theorem Fd.shb (d : Fd ks bx fl) : Shp false 1 400 (tI bx) := shp_inF (fun x hx => by
  obtain ⟨i, hi, rfl⟩ := List.getElem_of_mem hx
  have := d.side hi
  rw [← gi_get hi]
  omega) d.l4
theorem Fd.cells (d : Fd ks bx fl) : CellsOk bx := .of d.hb (by have := d.hv; omega)
end
def metB (b c : List Int) (ax : Nat) (x : List Int) : Bool := (List.range x.length).all fun i => decide (i = ax) || (decide (gi c i ≤ gi x i) && decide (gi x i < gi c i + gi b i))
structure Line (ks : List (List Int)) (fl : List Pl1) (ax : Nat) (x : List Int) (W : List Pl1) : Prop where
  asc : W.Pairwise fun p q => gi p.2 ax < gi q.2 ax
  mem : ∀ p, p ∈ W ↔ p ∈ fl ∧ metB (bxOf ks p.1) p.2 ax x = true
theorem nodup_asc {ax : Nat} {W : List Pl1} (h : W.Pairwise fun p q => gi p.2 ax < gi q.2 ax) : W.Nodup := h.imp fun {a b} h e => by subst e; omega
theorem perm_of_mem : ∀ {l m : List Pl1}, l.Nodup → m.Nodup → (∀ x, x ∈ l ↔ x ∈ m) → l.Perm m
  | [], m, _, _, h => by
    cases m with
    | nil => exact .refl _
    | cons y m => have := (h y).mpr (by simp); cases this
  | x :: l, m, hl, hm, h => by
    obtain ⟨n1, n2⟩ := List.nodup_cons.mp hl
    have hx : x ∈ m := (h x).mp (by simp)
    refine List.Perm.trans ?_ (List.perm_cons_erase hx).symm
    refine .cons x (perm_of_mem n2 (hm.erase x) fun y => ?_)
    rw [hm.mem_erase_iff, ← h y, List.mem_cons]
    constructor
    · intro hy
      exact ⟨fun e => n1 (by rw [← e]; exact hy), .inr hy⟩
    · rintro ⟨h1, h2 | h2⟩
      · exact absurd h2 h1
      · exact h2
theorem Line.unique {ks : List (List Int)} {fl : List Pl1} {ax : Nat} {x : List Int} {W W' : List Pl1} (h : Line ks fl ax x W) (h' : Line ks fl ax x W') : W = W' :=
  (perm_of_mem (nodup_asc h.asc) (nodup_asc h'.asc) fun p => by rw [h.mem, h'.mem]).eq_of_pairwise (le := fun p q => gi p.2 ax < gi q.2 ax) (fun a b _ _ h1 h2 => by omega) h.asc h'.asc
section
variable {ks : List (List Int)} {bx : List Int} {fl : List Pl1} {ax : Nat} {x : List Int}
end
end TW
set_option Elab.async false
set_option linter.all false
set_option maxRecDepth 100000
set_option maxHeartbeats 4000000
namespace TW
open PySem PySem.Spec PyProof.Rows L2 DL
theorem lt_lx : ∀ {a b : List Int}, a.length = b.length → a < b → lx a b
  | [], [], _, h => absurd h (by simp)
  | [], _ :: _, h, _ => by simp at h
  | _ :: _, [], h, _ => by simp at h
  | x :: a, y :: b, hl, h => by
    rw [List.cons_lt_cons_iff] at h
    rcases h with h | ⟨rfl, h⟩
    · exact .inl h
    · exact .inr ⟨rfl, lt_lx (by simpa using hl) h⟩
theorem lt_iffK {j k : Nat} {a b : List Int} (hl : a.length = b.length) : W.dataLt (atK j a) (atK k b) = true ↔ j < k ∨ j = k ∧ lx a b := by
  by_cases e : j = k
  · subst e
    constructor
    · intro h
      refine .inr ⟨rfl, ?_⟩
      unfold atK at h
      have al : W.alike (tI a) (tI b) = true := by
        have := alike_ints hl
        unfold tI
        simpa [W.alike] using this
      rw [W.dataLt_pair (by simp [W.alike]) al, if_pos (by simp [PyData.eqv])] at h
      split at h
      · cases h
      · unfold tI at h
        rw [W.dataLt_tuple] at h
        have h : W.rowLt (lI a) (lI b) = true := h
        unfold lI at h
        rw [W.dataLt_ints] at h
        exact lt_lx hl (of_decide_eq_true h)
    · rintro (h | ⟨_, h⟩)
      · omega
      · exact lt_atK hl h
  · have al : W.alike (tI a) (tI b) = true := by
      have := alike_ints hl
      unfold tI
      simpa [W.alike] using this
    have ne : ¬ (PyData.eqv (.int (j : Int)) (.int (k : Int)) = true) := by
      simp only [PyData.eqv, beq_iff_eq]
      omega
    unfold atK
    rw [W.dataLt_pair (by simp [W.alike]) al, if_neg ne, W.dataLt_int]
    rw [decide_eq_true_eq]
    omega
def sawB (ks : List (List Int)) (fl : List Pl1) (ax : Nat) (z : Int) : Bool := fl.any fun p => decide (gi p.2 ax < z) && decide (z < gi p.2 ax + gi (bxOf ks p.1) ax)
theorem saw_no {ks : List (List Int)} {fl : List Pl1} {ax : Nat} {z : Int} : sawB ks fl ax z = false ↔ ∀ p ∈ fl, gi p.2 ax < z → gi p.2 ax + gi (bxOf ks p.1) ax ≤ z := by
  unfold sawB
  rw [List.any_eq_false]
  constructor
  · intro h p hp h1
    have := h p hp
    simp [h1] at this
    omega
  · intro h p hp h2
    rw [Bool.and_eq_true, decide_eq_true_eq, decide_eq_true_eq] at h2
    have := h p hp h2.1
    omega
def lowF (fl : List Pl1) (ax : Nat) (z : Int) : List Pl1 := fl.filter fun p => decide (gi p.2 ax < z)
def highF (fl : List Pl1) (ax : Nat) (z : Int) : List Pl1 := (fl.filter fun p => !decide (gi p.2 ax < z)).map (movA ax (-z))
section
variable {ks : List (List Int)} {bx : List Int} {fl : List Pl1} {ax : Nat} {z : Int}
theorem FL.low (d : Fd ks bx fl) (hax : ax < bx.length) (z0 : 1 ≤ z) (z1 : z < gi bx ax) (hs : sawB ks fl ax z = false) : FL ks (bx.set ax z) (lowF fl ax z) := by
  have hs := saw_no.mp hs
  have hlen : (bx.set ax z).length = bx.length := by simp
  refine ⟨fun p hp => ?_, List.Pairwise.filter _ d.h.asc, List.Pairwise.filter _ d.h.dis, fun c hc => ?_⟩
  · obtain ⟨hp, hz⟩ := List.mem_filter.mp hp
    have hz := of_decide_eq_true hz
    obtain ⟨f1, f2, f3, f4⟩ := d.at hp
    refine ⟨f1, by rw [hlen]; exact f2, fun i hi => ?_⟩
    rw [hlen] at hi
    have := f4 i hi
    have := hs p hp hz
    by_cases e : i = ax
    · subst e; rw [gi_set_eq hi]; omega
    · rw [gi_set_ne hi e]; omega
  · obtain ⟨cl, cm⟩ := (mem_cells _ _ rfl c).mp hc
    rw [hlen] at cl cm
    have cb : c ∈ cellsF bx := (mem_cells _ _ rfl c).mpr ⟨cl, fun i hi => by
      have := cm i hi
      by_cases e : i = ax
      · subst e; rw [gi_set_eq hi] at this; omega
      · rwa [gi_set_ne hi e] at this⟩
    obtain ⟨p, hp, hm⟩ := d.h.all c cb
    obtain ⟨f1, f2, f3, f4⟩ := d.at hp
    have m2 := ((mem_cov (by omega)).mp hm).2 ax (by omega)
    have cx := cm ax hax
    rw [gi_set_eq hax] at cx
    exact ⟨p, List.mem_filter.mpr ⟨hp, decide_eq_true (by omega)⟩, hm⟩
theorem FL.high (d : Fd ks bx fl) (hax : ax < bx.length) (z0 : 1 ≤ z) (z1 : z < gi bx ax) (hs : sawB ks fl ax z = false) : FL ks (bx.set ax (gi bx ax - z)) (highF fl ax z) := by
  have hs := saw_no.mp hs
  have hlen : (bx.set ax (gi bx ax - z)).length = bx.length := by simp
  have lem : ∀ {a b : List Int}, a.length = bx.length → b.length = bx.length → lx a b → lx (a.set ax (gi a ax + -z)) (b.set ax (gi b ax + -z)) := fun {a b} la lb h => by
    rw [lx_iff (by omega)] at h
    rw [lx_iff (by simp; omega)]
    obtain ⟨i, h1, h2, h3⟩ := h
    refine ⟨i, by simpa using h1, fun j hj => ?_, ?_⟩
    · have := h2 j hj
      by_cases e : j = ax
      · subst e; rw [gi_set_eq (by omega), gi_set_eq (by omega)]; omega
      · rw [gi_set_ne (by omega) e, gi_set_ne (by omega) e]; exact this
    · by_cases e : i = ax
      · subst e; rw [gi_set_eq (by omega), gi_set_eq (by omega)]; omega
      · rw [gi_set_ne (by omega) e, gi_set_ne (by omega) e]; exact h3
  refine ⟨fun p hp => ?_, ?_, ?_, fun c hc => ?_⟩
  · obtain ⟨r, hr, rfl⟩ := List.mem_map.mp hp
    obtain ⟨hr, hz⟩ := List.mem_filter.mp hr
    have hz : ¬ gi r.2 ax < z := by simpa using hz
    obtain ⟨f1, f2, f3, f4⟩ := d.at hr
    refine ⟨f1, by simpa [movA] using f2, fun i hi => ?_⟩
    rw [hlen] at hi
    have := f4 i hi
    show 0 ≤ gi (r.2.set ax (gi r.2 ax + -z)) i ∧ gi (r.2.set ax (gi r.2 ax + -z)) i + gi (bxOf ks r.1) i ≤ _
    by_cases e : i = ax
    · subst e; rw [gi_set_eq hi, gi_set_eq (by omega)]; omega
    · rw [gi_set_ne hi e, gi_set_ne (by omega) e]; omega
  · unfold highF
    rw [List.pairwise_map]
    refine (List.Pairwise.filter _ d.h.asc).imp_of_mem fun {p q} mp mq h => ?_
    obtain ⟨_, p2, _⟩ := d.at (List.mem_filter.mp mp).1
    obtain ⟨_, q2, _⟩ := d.at (List.mem_filter.mp mq).1
    rw [lt_iffK (by omega)] at h
    show W.dataLt (atK p.1 (p.2.set ax _)) (atK q.1 (q.2.set ax _)) = true
    rw [lt_iffK (by simp; omega)]
    rcases h with h | ⟨h1, h2⟩
    · exact .inl h
    · exact .inr ⟨h1, lem p2 q2 h2⟩
  · unfold highF
    rw [List.pairwise_map]
    refine (List.Pairwise.filter _ d.h.dis).imp_of_mem fun {p q} mp mq h c c1 c2 => ?_
    obtain ⟨_, p2, p3, _⟩ := d.at (List.mem_filter.mp mp).1
    obtain ⟨_, q2, q3, _⟩ := d.at (List.mem_filter.mp mq).1
    have c1 : c ∈ covF (bxOf ks p.1) (p.2.set ax (gi p.2 ax + -z)) := c1
    have c2 : c ∈ covF (bxOf ks q.1) (q.2.set ax (gi q.2 ax + -z)) := c2
    rw [cov_movA (by omega) (by omega)] at c1 c2
    exact h _ c1.2 c2.2
  · obtain ⟨cl, cm⟩ := (mem_cells _ _ rfl c).mp hc
    rw [hlen] at cl cm
    have cb : c.set ax (gi c ax + z) ∈ cellsF bx := (mem_cells _ _ rfl _).mpr ⟨by simpa using cl, fun i hi => by
      have := cm i hi
      by_cases e : i = ax
      · subst e; rw [gi_set_eq hi] at this; rw [gi_set_eq (by omega)]; omega
      · rw [gi_set_ne hi e] at this; rw [gi_set_ne (by omega) e]; exact this⟩
    obtain ⟨p, hp, hm⟩ := d.h.all _ cb
    obtain ⟨f1, f2, f3, f4⟩ := d.at hp
    have m2 := ((mem_cov (by omega)).mp hm).2 ax (by omega)
    rw [gi_set_eq (by omega)] at m2
    have cx := cm ax hax
    have hz : ¬ gi p.2 ax < z := fun h => by
      have := hs p hp h
      omega
    refine ⟨movA ax (-z) p, List.mem_map.mpr ⟨p, List.mem_filter.mpr ⟨hp, by simpa using hz⟩, rfl⟩, ?_⟩
    show c ∈ covF (bxOf ks p.1) (p.2.set ax (gi p.2 ax + -z))
    rw [cov_movA (by omega) (by omega), show gi c ax - -z = gi c ax + z by omega]
    exact ⟨by omega, hm⟩
theorem vol_setle (d : Fd ks bx fl) (hax : ax < bx.length) {y : Int} (y0 : 1 ≤ y) (y1 : y ≤ gi bx ax) : vol (bx.set ax y) ≤ 400 := by
  have := (vol_le0 (a := bx.set ax y) (b := bx) (by simp) fun i hi => by
    have := d.side hi
    by_cases e : i = ax
    · subst e; rw [gi_set_eq hi]; omega
    · rw [gi_set_ne hi e]; omega).2
  have := d.hv
  omega
theorem Fd.box (d : Fd ks bx fl) {fl' : List Pl1} {y : Int} (y0 : 1 ≤ y) (hv : vol (bx.set ax y) ≤ 400) (h : FL ks (bx.set ax y) fl') : Fd ks (bx.set ax y) fl' :=
  ⟨d.k4, fun b hb => by simpa using d.kk b hb, by simpa using d.l0, by simpa using d.l4, fun x hx => by
    rcases List.mem_or_eq_of_mem_set hx with m | m
    · exact d.hb x m
    · omega, hv, h⟩
theorem Fd.low (d : Fd ks bx fl) (hax : ax < bx.length) (z0 : 1 ≤ z) (z1 : z < gi bx ax) (hs : sawB ks fl ax z = false) : Fd ks (bx.set ax z) (lowF fl ax z) :=
  d.box z0 (vol_setle d hax z0 (by omega)) (FL.low d hax z0 z1 hs)
theorem Fd.high (d : Fd ks bx fl) (hax : ax < bx.length) (z0 : 1 ≤ z) (z1 : z < gi bx ax) (hs : sawB ks fl ax z = false) : Fd ks (bx.set ax (gi bx ax - z)) (highF fl ax z) :=
  d.box (by omega) (vol_setle d hax (by omega) (by omega)) (FL.high d hax z0 z1 hs)
end
end TW
set_option Elab.async false
set_option linter.all false
set_option maxRecDepth 100000
set_option maxHeartbeats 4000000
namespace TW
open PySem PySem.Spec PyProof.Rows L2 DL
end TW
set_option Elab.async false
set_option linter.all false
set_option maxRecDepth 100000
set_option maxHeartbeats 4000000
namespace TW
open PySem PySem.Spec PyProof.Rows L2 DL
end TW
set_option Elab.async false
set_option linter.all false
set_option maxRecDepth 100000
set_option maxHeartbeats 4000000
namespace TW
open PySem PySem.Spec PyProof.Rows L2 DL
end TW
set_option Elab.async false
set_option linter.all false
set_option maxRecDepth 100000
set_option maxHeartbeats 4000000
namespace TW
open PySem PySem.Spec PyProof.Rows L2 DL
end TW
set_option Elab.async false
set_option linter.all false
set_option maxRecDepth 100000
set_option maxHeartbeats 4000000
namespace TW
open PySem PySem.Spec PyProof.Rows L2 DL
structure Bk (a b : List Int) : Prop where
  l1 : 1 ≤ a.length
  l4 : a.length ≤ 4
  lb : b.length = a.length
  pa : In (10 ^ 12) a
  pb : In (10 ^ 12) b
def brF (a b : List Int) : List (Str × PyData) := [("both", prD a b), ("parts", .tuple (lT (atomsF a b)))]
def brD (a b : List Int) : PyData := obD "Bricks" (brF a b)
def sp_Bricks_init : DSp := fun cs R => ∃ (s : Addr) (x y : PyData), cs = [.ob s "Bricks" [], .d x, .d y] ∧ (∀ e, pairE (.tuple [x, y]) = some e → R (excD "BadKinds" [("error", encE (some e))]) cs) ∧ ∀ a b, x = tI a → y = tI b → Bk a b → R .none [.ob s "Bricks" (brF a b), .d x, .d y]
def sp_Bricks_pair : DSp := fun cs R => ∃ a b, cs = [.d (brD a b)] ∧ R (prD a b) cs
def sp_Bricks___str__ : DSp := fun cs R => ∃ a b, cs = [.d (brD a b)] ∧ Bk a b ∧ R (tS (kx [a, b])) cs
def w_Bricks_init_s1 : DTS := (wAsgG (wCall [] sp_atoms (wCons (wFldO 0 "Bricks" "both") wNil)) (gA 0 "Bricks" "parts"))
@[simp ↓] theorem w_Bricks_init_s1_ap (E : DEnds) (δ : DS) : w_Bricks_init_s1 E δ = (wAsgG (wCall [] sp_atoms (wCons (wFldO 0 "Bricks" "both") wNil)) (gA 0 "Bricks" "parts")) E δ := rfl
def w_Bricks_init_1 : DTS := (wRaise (wMk1 "BadKinds" "error" (wCons (wVar 3) wNil)))
def w_Bricks_init_t1 : DTS := (wSeq (wAsgG (wTup (wCons (wVar 1) (wCons (wVar 2) wNil))) (gA 0 "Bricks" "both")) w_Bricks_init_s1)
def w_Bricks_init_s2 : DTS := (wSeq (wIf (wB (wOp pIsNot (wVar 3) (wC .none))) w_Bricks_init_1 wNext) w_Bricks_init_t1)
@[simp ↓] theorem w_Bricks_init_s2_ap (E : DEnds) (δ : DS) : w_Bricks_init_s2 E δ = (wSeq (wIf (wB (wOp pIsNot (wVar 3) (wC .none))) w_Bricks_init_1 wNext) w_Bricks_init_t1) E δ := rfl
def w_Bricks_init : DTS := (wSeq (wSet 3 (mE (wCall [] sp_pair_error (wCons (wTup (wCons (wVar 1) (wCons (wVar 2) wNil))) wNil)))) w_Bricks_init_s2)
def w_Bricks_pair : DTS := (wRet (wFld "Bricks" "both" (wVar 0)))
def w_Bricks___str__ : DTS := (wRet (wFmt (wCall [] sp_kinds_text (wCons (wFld "Bricks" "both" (wVar 0)) wNil))))
theorem ln_Bricks_init : ∀ cs R, sp_Bricks_init cs R → cs.length = 3 := by
  intro cs R h
  unfold sp_Bricks_init at h
  repeat (obtain ⟨_, h⟩ := h)
  subst_vars; rfl
theorem ln_Bricks_pair : ∀ cs R, sp_Bricks_pair cs R → cs.length = 1 := by
  intro cs R h
  unfold sp_Bricks_pair at h
  repeat (obtain ⟨_, h⟩ := h)
  subst_vars; rfl
theorem ln_Bricks___str__ : ∀ cs R, sp_Bricks___str__ cs R → cs.length = 1 := by
  intro cs R h
  unfold sp_Bricks___str__ at h
  repeat (obtain ⟨_, h⟩ := h)
  subst_vars; rfl
end TW
set_option Elab.async false
set_option linter.all false
set_option maxRecDepth 100000
set_option maxHeartbeats 4000000
namespace TW
open PySem PySem.Spec PyProof.Rows L2 DL
theorem whole_intB {v : PyData} {lo hi : Int} (h : wholeB lo hi v = true) : ∃ i : Int, v = .int i ∧ lo ≤ i ∧ i ≤ hi := by
  cases v with
  | int i =>
    simp only [wholeB, Bool.and_eq_true, decide_eq_true_eq] at h
    exact ⟨i, rfl, h.1, h.2⟩
  | _ => cases h
theorem ints_ofB : ∀ ds : List PyData, (∀ i, i < ds.length → wholeB 1 (10 ^ 12) (gd ds i) = true) → ∃ ns : List Int, ds = lI ns ∧ In (10 ^ 12) ns
  | [], _ => ⟨[], rfl, fun _ h => nomatch h⟩
  | d :: ds, h => by
    obtain ⟨ns, e, hn⟩ := ints_ofB ds fun i hi => h (i + 1) (Nat.succ_lt_succ hi)
    obtain ⟨i, e2, h0, h1⟩ := whole_intB (h 0 (Nat.succ_pos _))
    have e2 : d = .int i := e2
    refine ⟨i :: ns, by rw [e, e2]; rfl, fun x hx => ?_⟩
    rcases List.mem_cons.mp hx with rfl | hx
    · exact ⟨h0, h1⟩
    · exact hn x hx
theorem sidesE_noneB {v : PyData} (h : sidesE v = none) : ∃ ns : List Int, v = tI ns ∧ 1 ≤ ns.length ∧ ns.length ≤ 4 ∧ In (10 ^ 12) ns := by
  obtain ⟨ds, rfl, l1, l4⟩ := sidesE_tuple h
  simp only [sidesE, l1, l4, and_self, if_true, Option.map_eq_none_iff, List.find?_eq_none, List.mem_range] at h
  obtain ⟨ns, rfl, hn⟩ := ints_ofB ds fun i hi => by simpa [badS] using h i hi
  have : (lI ns).length = ns.length := by simp [lI]
  exact ⟨ns, rfl, by omega, by omega, hn⟩
theorem sidesE_okB {ns : List Int} (l1 : 1 ≤ ns.length) (l4 : ns.length ≤ 4) (hn : In (10 ^ 12) ns) : sidesE (tI ns) = none := by
  have e : (lI ns).length = ns.length := by simp [lI]
  show sidesE (.tuple (lI ns)) = none
  simp only [sidesE, e, l1, l4, and_self, if_true, Option.map_eq_none_iff, List.find?_eq_none, List.mem_range]
  intro i hi
  have m := hn _ (gi_mem hi)
  have g : gd (lI ns) i = .int (gi ns i) := by
    unfold gd lI gi
    simp [hi]
  simp only [badS, g, wholeB, Bool.not_eq_true', Bool.not_eq_false', Bool.not_not, Bool.and_eq_true, decide_eq_true_eq]
  simp only [m.1, decide_true, Bool.not_true, Bool.not_false, Bool.false_eq_true, not_false_iff, true_and, Bool.and_self]
  have := m.2
  simp; omega
theorem lenT_tIB (ns : List Int) : TW.lenD (tI ns) = ns.length := by simp [TW.lenD, tI, lI]
theorem pairE_noneB {x y : PyData} (h : pairE (.tuple [x, y]) = none) : ∃ a b, x = tI a ∧ y = tI b ∧ Bk a b := by
  have k : kindsE (.tuple [x, y]) = none := by
    unfold pairE at h
    split at h
    · assumption
    · cases h
  simp only [kindsE, List.length_cons, List.length_nil, Nat.reduceAdd, Nat.reduceLeDiff, and_self, if_true, Option.map_eq_none_iff, List.find?_eq_none, List.mem_range] at k
  have k0 := k 0 (by decide)
  have k1 := k 1 (by decide)
  simp only [badK, gd, Bool.or_eq_true, not_or, decide_eq_true_eq, Bool.not_eq_true, Option.isSome_eq_false_iff, Option.isNone_iff_eq_none] at k0 k1
  obtain ⟨a, ea, a1, a4, ha⟩ := sidesE_noneB k0.1
  obtain ⟨b, eb, b1, b4, hb⟩ := sidesE_noneB k1.1
  have ea : x = tI a := ea
  have eb : y = tI b := eb
  subst ea eb
  have l := k1.2
  refine ⟨a, b, rfl, rfl, a1, a4, ?_, ha, hb⟩
  have l2 : TW.lenD (tI b) = TW.lenD (tI a) := Decidable.not_not.mp (of_decide_eq_false l)
  rwa [lenT_tIB, lenT_tIB] at l2
theorem pairE_okB {a b : List Int} (h : Bk a b) : pairE (prD a b) = none := by
  have s1 := sidesE_okB h.l1 h.l4 h.pa
  have s2 := sidesE_okB (ns := b) (by have := h.lb; have := h.l1; omega) (by have := h.lb; have := h.l4; omega) h.pb
  have k : kindsE (prD a b) = none := by
    show kindsE (.tuple [tI a, tI b]) = none
    simp only [kindsE, List.length_cons, List.length_nil, Nat.reduceAdd, Nat.reduceLeDiff, and_self, if_true, Option.map_eq_none_iff, List.find?_eq_none, List.mem_range]
    intro i hi
    obtain rfl | rfl : i = 0 ∨ i = 1 := by omega
    · show ¬ (((sidesE (tI a)).isSome || decide (TW.lenD (tI a) ≠ TW.lenD (tI a))) = true)
      rw [s1]; simp
    · show ¬ (((sidesE (tI b)).isSome || decide (TW.lenD (tI b) ≠ TW.lenD (tI a))) = true)
      rw [s2, lenT_tIB, lenT_tIB, h.lb]; simp
  unfold pairE
  rw [k]
  rfl
theorem Bk.PB {a b bx : List Int} (h : Bk a b) (l : bx.length = a.length) (hb : In (10 ^ 12) bx) : PB a b bx :=
  ⟨by omega, by have := h.lb; omega, by have := h.l1; omega, by have := h.l4; omega, fun x hx => Pos.of (h.pa x hx).1 (by have := (h.pa x hx).2; omega), fun x hx => Pos.of (h.pb x hx).1 (by have := (h.pb x hx).2; omega), fun x hx => Pos.of (hb x hx).1 (by have := (hb x hx).2; omega)⟩
@[simp] theorem ne_both_parts : (Str.ofString "both" = Str.ofString "parts") = False := eq_false (by decide +kernel)
@[simp] theorem nb_both_parts : (Str.ofString "both" == Str.ofString "parts") = false := by decide +kernel
@[simp] theorem ne_parts_both : (Str.ofString "parts" = Str.ofString "both") = False := eq_false (by decide +kernel)
@[simp] theorem nb_parts_both : (Str.ofString "parts" == Str.ofString "both") = false := by decide +kernel
theorem brF_both (a b : List Int) : (brF a b).lookup ("both" : Str) = some (prD a b) := by
  simp only [brF, List.lookup, beq_self_eq_true]
theorem rd_Bricks_init : ∀ cs R, sp_Bricks_init cs R → w_Bricks_init (endsOf cs R) (start0 4 cs) := by
  rintro _ R ⟨s, x, y, rfl, hE, hR⟩
  simp -implicitDefEqProofs -dsimp [w_Bricks_init]
  refine ask_of (sp := sp_pair_error) ⟨_, rfl, ?_⟩
  cases h : pairE (.tuple [x, y]) with
  | some e =>
    simp -implicitDefEqProofs -dsimp [encE, w_Bricks_init_1]
    exact hE e h
  | none =>
    obtain ⟨a, b, rfl, rfl, hk⟩ := pairE_noneB h
    have k1 := hk.l1
    have k4 := hk.l4
    simp -implicitDefEqProofs -dsimp [encE, w_Bricks_init_t1, putD1]
    refine ask_of (sp := sp_atoms) ⟨a, b, rfl, hk.lb, by omega, by omega, fun x hx => by have := hk.pa x hx; omega, fun x hx => by have := hk.pb x hx; omega, ?_⟩
    simp -implicitDefEqProofs -dsimp [putD1]
    exact hR a b rfl rfl hk
theorem rd_Bricks_pair : ∀ cs R, sp_Bricks_pair cs R → w_Bricks_pair (endsOf cs R) (start0 1 cs) := by
  rintro _ R ⟨a, b, rfl, hR⟩
  simp -implicitDefEqProofs -dsimp [w_Bricks_pair, brD, fldC_of (brF_both a b)]
  exact hR
def KOkB (kss : List (List Int)) : Prop := ∃ m : Nat, 0 < m ∧ m ≤ 4 ∧ 0 < kss.length ∧ kss.length ≤ 4 ∧ ∀ ns ∈ kss, ns.length = m ∧ ∀ n ∈ ns, NumOk n
theorem glue_memB {s c : Nat} : ∀ {ls : List (List Nat)}, c ∈ glue s ls → c = s ∨ ∃ l ∈ ls, c ∈ l
  | [], h => by simp [glue] at h
  | [a], h => .inr ⟨a, by simp, by simpa [glue] using h⟩
  | a :: b :: r, h => by
    rw [glue_cons, List.mem_append, List.mem_cons] at h
    rcases h with h | h | h
    · exact .inr ⟨a, by simp, h⟩
    · exact .inl h
    · exact (glue_memB h).imp id fun ⟨l, m, k⟩ => ⟨l, List.mem_cons_of_mem _ m, k⟩
theorem sx_leB {ns : List Int} : ∀ c ∈ sx ns, c ≤ 120 := fun c h => by
  rcases glue_memB h with rfl | ⟨l, m, k⟩
  · omega
  · obtain ⟨n, _, rfl⟩ := List.mem_map.mp m
    have := dg_all _ c k
    omega
theorem kx_leB {kss : List (List Int)} : ∀ c ∈ kx kss, c ≤ 120 := fun c h => by
  rcases glue_memB h with rfl | ⟨l, m, k⟩
  · omega
  · obtain ⟨ns, _, rfl⟩ := List.mem_map.mp m
    exact sx_leB c k
theorem shp_tSB {l : List Nat} (h : ∀ c ∈ l, c ≤ 120) (n : l.length ≤ 300) : Shp false 1 3002 (tS l) := by
  refine Shp.text (k := 300) ?_ (by rw [len_S]; exact n)
  show (l.toArray).all (· < 0x110000) = true
  rw [Array.all_eq_true]
  intro i hi
  have := h _ (List.getElem_mem (l := l) (by simpa using hi))
  simp
  omega
theorem KOkB.one {b : List Int} {bs : List (List Int)} (h : KOkB (b :: bs)) : KOkB [b] := by
  obtain ⟨m, m0, m4, _, _, hb⟩ := h
  exact ⟨m, m0, m4, by simp, by simp, fun ns hn => hb ns (by simp at hn; simp [hn])⟩
theorem KOkB.len {kss : List (List Int)} (h : KOkB kss) : (kx kss).length ≤ 300 := by
  obtain ⟨m, m0, m4, k0, k4, hb⟩ := h
  have := glue_len (c := 32) (B := 56) (ls := kss.map sx) fun l ml => by
    obtain ⟨ns, hm, rfl⟩ := List.mem_map.mp ml
    have := sx_len (hb ns hm).2
    have := (hb ns hm).1
    omega
  rw [List.length_map] at this
  exact Nat.le_trans this (by omega)
theorem shp_numB {ns : List Int} (l : ns.length ≤ 4) (h : ∀ n ∈ ns, NumOk n) : Shp false 1 208 (tI ns) :=
  Shp.tuple (shp_ints (k := 40) l (fun x hx => Nat.le_of_lt_succ (log_abs (B := 41) (by decide) (by have := (h x hx).1; omega) (by have := (h x hx).2; omega))))
theorem KOkB.text {kss : List (List Int)} (h : KOkB kss) : Shp false 1 3002 (tS (kx kss)) := shp_tSB kx_leB h.len
theorem Bk.kok {a b : List Int} (h : Bk a b) : KOkB [a, b] := ⟨a.length, by have := h.l1; omega, h.l4, by simp, by simp, fun ns hn => by
  simp only [List.mem_cons, List.not_mem_nil, or_false] at hn
  rcases hn with rfl | rfl
  · exact ⟨rfl, fun n m => h.pa n m⟩
  · exact ⟨h.lb, fun n m => h.pb n m⟩⟩
theorem rd_Bricks___str__ : ∀ cs R, sp_Bricks___str__ cs R → w_Bricks___str__ (endsOf cs R) (start0 1 cs) := by
  rintro _ R ⟨a, b, rfl, hk, hR⟩
  have k4 := hk.l4
  have l := hk.kok.len
  have lb := hk.lb
  simp -implicitDefEqProofs -dsimp [w_Bricks___str__, brD, fldC_of (brF_both a b)]
  refine ask_of (sp := sp_kinds_text) ⟨[a, b], rfl, by simp, fun ns hn => ?_, ?_⟩
  · simp only [List.mem_cons, List.not_mem_nil, or_false] at hn
    rcases hn with rfl | rfl
    · exact ⟨by omega, fun n m => hk.pa n m⟩
    · exact ⟨by omega, fun n m => hk.pb n m⟩
  · simp -implicitDefEqProofs -dsimp [tS]
    refine ⟨?_, hR⟩
    have e : (⟨(kx [a, b]).toArray⟩ : Str).length = (kx [a, b]).length := len_S
    rw [e]
    exact Nat.le_trans l (by decide)
@[simp] theorem isBr (a b : List Int) (δ : DS) : obIs (.d (obD "Bricks" (brF a b))) δ "Bricks" = True := eq_true (by unfold obIs; exact ⟨_, rfl⟩)
end TW
set_option Elab.async false
set_option linter.all false
set_option maxRecDepth 100000
set_option maxHeartbeats 4000000
namespace TW
open PySem PySem.NumText DL
def spA (c : Nat) (w : List Nat) : List Nat → List (List Nat)
  | [] => [w]
  | d :: r => if d = c then w :: spA c [] r else spA c (w ++ [d]) r
def spl (c : Nat) (l : List Nat) : List (List Nat) := spA c [] l
theorem spA_ne (c : Nat) : ∀ (l w : List Nat), spA c w l ≠ []
  | [], w => by simp [spA]
  | d :: r, w => by
    unfold spA
    split
    · simp
    · exact spA_ne c r _
theorem spA_free {c : Nat} : ∀ {v : List Nat} (w l : List Nat), c ∉ v → spA c w (v ++ l) = spA c (w ++ v) l
  | [], w, l, _ => by simp
  | d :: v, w, l, h => by
    have h1 : ¬ d = c := fun e => h (by simp [e])
    have h2 : c ∉ v := fun m => h (by simp [m])
    rw [List.cons_append, spA, if_neg h1, spA_free _ _ h2, List.append_assoc]
    rfl
theorem spl_glue {c : Nat} : ∀ {ws : List (List Nat)}, ws ≠ [] → (∀ w ∈ ws, c ∉ w) → spl c (glue c ws) = ws
  | [], h, _ => absurd rfl h
  | [a], _, h => by
    have := spA_free (c := c) (v := a) [] [] (h a (by simp))
    rw [List.append_nil] at this
    rw [spl, glue, this]
    rfl
  | a :: b :: r, _, h => by
    have ih := spl_glue (c := c) (ws := b :: r) (by simp) fun w m => h w (List.mem_cons_of_mem _ m)
    unfold spl at ih
    rw [spl, glue_cons, spA_free _ _ (h a (by simp)), List.nil_append, spA, if_pos rfl, ih]
def goodB (w : List Nat) : Bool := w.all (fun c => decide (48 ≤ c ∧ c ≤ 57)) && decide (w.headD 48 ≠ 48) && decide (digitsVal w ≤ 10 ^ 12)
def numB (w : List Nat) (b : Bool) : Bool := goodB w || (w.isEmpty && !b)
theorem goodB_iff {w : List Nat} : goodB w = true ↔ AllDigits w ∧ w.headD 48 ≠ 48 ∧ digitsVal w ≤ 10 ^ 12 := by
  simp only [goodB, Bool.and_eq_true, decide_eq_true_eq, List.all_eq_true, AllDigits]
  exact and_assoc
theorem goodB_ne {w : List Nat} (h : goodB w = true) : w ≠ [] := fun e => by subst e; exact absurd h (by decide)
theorem headD_app {w : List Nat} (c d : Nat) (h : w ≠ []) : (w ++ [c]).headD d = w.headD d := by cases w with | nil => exact absurd rfl h | cons a r => rfl
theorem goodB_snoc {w : List Nat} {c : Nat} : goodB (w ++ [c]) = true ↔ (w = [] ∧ 49 ≤ c ∧ c ≤ 57) ∨ (goodB w = true ∧ (48 ≤ c ∧ c ≤ 57) ∧ digitsVal w * 10 + (c - 48) ≤ 10 ^ 12) := by
  rw [goodB_iff, goodB_iff, digitsVal_snoc]
  have dd : AllDigits (w ++ [c]) ↔ AllDigits w ∧ (48 ≤ c ∧ c ≤ 57) := by
    simp only [AllDigits, List.mem_append, List.mem_singleton]
    exact ⟨fun h => ⟨fun d m => h d (.inl m), h c (.inr rfl)⟩, fun h d m => m.elim (h.1 d) fun e => e ▸ h.2⟩
  rw [dd]
  cases w with
  | nil =>
    simp [digitsVal, AllDigits]
    omega
  | cons a r =>
    rw [headD_app c 48 (by simp)]
    have p10 : (10 : Nat) ^ 12 = 1000000000000 := by decide
    constructor
    · rintro ⟨⟨h1, h2⟩, h3, h4⟩
      exact .inr ⟨⟨h1, h3, by omega⟩, h2, h4⟩
    · rintro (⟨h, _⟩ | ⟨⟨h1, h3, _⟩, h2, h4⟩)
      · simp at h
      · exact ⟨⟨h1, h2⟩, h3, h4⟩
theorem numB_snoc {w : List Nat} {c : Nat} (h : numB (w ++ [c]) false = true) : numB w false = true := by
  have g : goodB (w ++ [c]) = true := by simpa [numB] using h
  rcases goodB_snoc.mp g with ⟨rfl, _⟩ | ⟨g, _⟩
  · rfl
  · simp [numB, g]
theorem numB_beg {w : List Nat} {b : Bool} (h : numB w b = true) : numB w false = true := by
  simp only [numB, Bool.or_eq_true, Bool.and_eq_true] at h ⊢
  exact h.imp id fun x => ⟨x.1, rfl⟩
def textB (k : Nat) (ws : List (List Nat)) (b : Bool) : Bool := decide (ws.length ≤ k) && ws.dropLast.all goodB && numB (ws.getLastD []) b
def aut (k : Nat) (w : List Nat) : List Nat → Bool → Bool
  | [], b => numB w b
  | c :: r, b => if c = 120 then goodB w && (decide (0 < k) && aut (k - 1) [] r b) else aut k (w ++ [c]) r b
theorem textB_cons {k : Nat} {w : List Nat} {ws : List (List Nat)} {b : Bool} (h : ws ≠ []) : textB (k + 1) (w :: ws) b = (goodB w && textB k ws b) := by
  obtain ⟨v, r, rfl⟩ := List.exists_cons_of_ne_nil h
  unfold textB
  have e1 : (w :: v :: r).dropLast = w :: (v :: r).dropLast := rfl
  have e2 : (w :: v :: r).getLastD [] = (v :: r).getLastD [] := by simp [List.getLastD]
  have e3 : ((w :: v :: r).length ≤ k + 1) = ((v :: r).length ≤ k) := by simp
  rw [e1, e2, List.all_cons]
  simp only [e3]
  cases goodB w <;> simp
theorem textB_zero {ws : List (List Nat)} {b : Bool} (h : ws ≠ []) : textB 0 ws b = false := by
  obtain ⟨v, r, rfl⟩ := List.exists_cons_of_ne_nil h
  simp [textB]
theorem textB_aut {b : Bool} : ∀ (L : List Nat) (k : Nat) (w : List Nat), textB (k + 1) (spA 120 w L) b = aut k w L b
  | [], k, w => by simp [spA, textB, aut]
  | c :: r, k, w => by
    unfold spA aut
    split
    · rw [textB_cons (spA_ne 120 r [])]
      cases k with
      | zero => rw [textB_zero (spA_ne 120 r [])]; simp
      | succ k => rw [textB_aut r k]; simp
    · exact textB_aut r k _
theorem aut_beg {b : Bool} : ∀ (L : List Nat) {k : Nat} {w : List Nat}, aut k w L b = true → numB w false = true
  | [], k, w, h => numB_beg h
  | c :: r, k, w, h => by
    unfold aut at h
    split at h
    · simp only [Bool.and_eq_true] at h
      simp [numB, h.1]
    · exact numB_snoc (aut_beg r h)
theorem aut_pre {b : Bool} (q : List Nat) : ∀ (p : List Nat) {k : Nat} {w : List Nat}, aut k w (p ++ q) b = true → aut k w p false = true
  | [], k, w, h => aut_beg q h
  | c :: r, k, w, h => by
    rw [List.cons_append] at h
    unfold aut at h ⊢
    split at h
    · rename_i e
      rw [if_pos e]
      simp only [Bool.and_eq_true] at h ⊢
      exact ⟨h.1, h.2.1, aut_pre q r h.2.2⟩
    · rename_i e
      rw [if_neg e]
      exact aut_pre q r h
theorem aut_free {b : Bool} {k : Nat} : ∀ {v : List Nat} (w l : List Nat), 120 ∉ v → aut k w (v ++ l) b = aut k (w ++ v) l b
  | [], w, l, _ => by simp
  | d :: v, w, l, h => by
    rw [List.cons_append, aut, if_neg (fun e => h (by simp [e])), aut_free _ _ fun m => h (by simp [m]), List.append_assoc]
    rfl
def scan (v : Nat) : List Nat → Nat × List Nat
  | [] => (v, [])
  | c :: r => if (48 ≤ c ∧ c ≤ 57) ∧ v * 10 + (c - 48) ≤ 10 ^ 12 then scan (v * 10 + (c - 48)) r else (v, c :: r)
def numOf : List Nat → Option (Nat × List Nat)
  | [] => none
  | c :: r => if 49 ≤ c ∧ c ≤ 57 then some (scan (c - 48) r) else none
def sidesOf : Nat → List Nat → Option (List Int) × List Nat
  | 0, l => match numOf l with
    | none => (none, l)
    | some (n, r) => (some [(n : Int)], r)
  | k + 1, l => match numOf l with
    | none => (none, l)
    | some (n, r) => if r.head? = some 120 then ((sidesOf k r.tail).1.map ((n : Int) :: ·), (sidesOf k r.tail).2) else (some [(n : Int)], r)
theorem scan_good : ∀ (l : List Nat) {w : List Nat}, goodB w = true → ∃ d, l = d ++ (scan (digitsVal w) l).2 ∧ AllDigits d ∧ goodB (w ++ d) = true ∧ (scan (digitsVal w) l).1 = digitsVal (w ++ d) ∧ ∀ c r, (scan (digitsVal w) l).2 = c :: r → goodB (w ++ d ++ [c]) = false
  | [], w, g => ⟨[], rfl, fun _ h => by simp at h, by simpa using g, by simp [scan], fun c r h => by simp [scan] at h⟩
  | c :: r, w, g => by
    unfold scan
    by_cases h : (48 ≤ c ∧ c ≤ 57) ∧ digitsVal w * 10 + (c - 48) ≤ 10 ^ 12
    · rw [if_pos h]
      have g' : goodB (w ++ [c]) = true := goodB_snoc.mpr (.inr ⟨g, h⟩)
      have := scan_good r g'
      rw [digitsVal_snoc] at this
      obtain ⟨d, h1, h2, h3, h4, h5⟩ := this
      refine ⟨c :: d, by rw [List.cons_append, ← h1], fun x hx => ?_, by simpa using h3, by simpa using h4, fun x y e => by simpa using h5 x y e⟩
      rcases List.mem_cons.mp hx with rfl | m
      · exact h.1
      · exact h2 x m
    · rw [if_neg h]
      refine ⟨[], rfl, fun _ h => by simp at h, by simpa using g, by simp, fun x y e => ?_⟩
      simp only [List.cons.injEq] at e
      obtain ⟨rfl, rfl⟩ := e
      rw [List.append_nil]
      cases e : goodB (w ++ [c]) with
      | false => rfl
      | true =>
        rcases goodB_snoc.mp e with ⟨rfl, _⟩ | ⟨_, z⟩
        · exact absurd g (by decide)
        · exact absurd z h
theorem numOf_none {l : List Nat} (h : numOf l = none) : ∀ c r, l = c :: r → goodB [c] = false := by
  rintro c r rfl
  simp only [numOf] at h
  split at h
  · simp at h
  · rename_i z
    cases e : goodB [c] with
    | false => rfl
    | true =>
      rcases goodB_snoc (w := []) (c := c) |>.mp e with ⟨_, z'⟩ | ⟨z', _⟩
      · exact absurd z' z
      · exact absurd z' (by decide)
theorem numOf_some {l : List Nat} {n : Nat} {r : List Nat} (h : numOf l = some (n, r)) : ∃ w, l = w ++ r ∧ goodB w = true ∧ n = digitsVal w ∧ ∀ c q, r = c :: q → goodB (w ++ [c]) = false := by
  unfold numOf at h
  split at h
  · simp at h
  · rename_i c q
    split at h
    · rename_i z
      have g : goodB [c] = true := goodB_snoc (w := []) (c := c) |>.mpr (.inl ⟨rfl, z⟩)
      obtain ⟨d, h1, h2, h3, h4, h5⟩ := scan_good q g
      have e : digitsVal [c] = c - 48 := by simp [digitsVal]
      rw [e] at h1 h4 h5
      simp only [Option.some.injEq] at h
      rw [h] at h1 h4 h5
      exact ⟨c :: d, by rw [List.cons_append]; exact congrArg _ h1, h3, h4, h5⟩
    · simp at h
theorem good_x {w : List Nat} (h : goodB w = true) : 120 ∉ w := fun m => by have := (goodB_iff.mp h).1 120 m; omega
theorem good_num {w : List Nat} (h : goodB w = true) : 1 ≤ (digitsVal w : Int) ∧ (digitsVal w : Int) ≤ 10 ^ 12 := by
  obtain ⟨h1, h2, h3⟩ := goodB_iff.mp h
  have p10 : (10 : Nat) ^ 12 = 1000000000000 := by decide
  obtain ⟨c, r, rfl⟩ := List.exists_cons_of_ne_nil (goodB_ne h)
  have := h1 c (by simp)
  have := digitsVal_pos (c := c) (cs := r) (by simp at h2; omega)
  constructor <;> omega
structure ReadS (k : Nat) (l : List Nat) (o : Option (List Int)) (r p : List Nat) : Prop where
  eq : l = p ++ r
  beg : aut k [] p false = true
  dead : ∀ c q, r = c :: q → aut k [] (p ++ [c]) false = false
  bad : o = none → aut k [] p true = false
  ok : ∀ ns, o = some ns → aut k [] p true = true ∧ (spl 120 p).map (fun w => (digitsVal w : Int)) = ns ∧ 1 ≤ ns.length ∧ ns.length ≤ k + 1 ∧ (∀ n ∈ ns, 1 ≤ n ∧ n ≤ 10 ^ 12)
theorem read_none (k : Nat) {l : List Nat} (h : numOf l = none) : ReadS k l none l [] where
  eq := rfl
  beg := rfl
  dead c q e := by
    show aut k [] [c] false = false
    unfold aut
    split
    · rfl
    · show numB [c] false = false
      simp [numB, numOf_none h c q e]
  bad _ := rfl
  ok _ h := by simp at h
theorem aut_word {k : Nat} {w : List Nat} {b : Bool} (l : List Nat) (h : goodB w = true) : aut k [] (w ++ l) b = aut k w l b := by
  rw [aut_free _ _ (good_x h), List.nil_append]
theorem spl_word {w : List Nat} (h : goodB w = true) : spl 120 w = [w] := by
  have := spA_free (c := 120) [] [] (good_x h)
  rw [List.append_nil] at this
  rw [spl, this]
  rfl
theorem read_last {k : Nat} {l r : List Nat} {n : Nat} (h : numOf l = some (n, r)) (he : k = 0 ∨ r.head? ≠ some 120) : ∃ p, ReadS k l (some [(n : Int)]) r p := by
  obtain ⟨w, rfl, g, rfl, hd⟩ := numOf_some h
  have a : ∀ b, aut k [] w b = true := fun b => by
    have := aut_word (k := k) (b := b) [] g
    rw [List.append_nil] at this
    rw [this]
    show numB w b = true
    simp [numB, g]
  refine ⟨w, rfl, a _, fun c q e => ?_, (fun h => by simp at h), fun ns e => ?_⟩
  · rw [aut_word _ g]
    unfold aut
    split
    · rename_i ec
      rcases he with rfl | he
      · simp
      · rw [e, ec] at he
        exact absurd rfl he
    · show numB (w ++ [c]) false = false
      simp [numB, hd c q e]
  · simp only [Option.some.injEq] at e
    subst e
    rw [spl_word g]
    exact ⟨a _, rfl, by simp, by simp, fun n m => by rw [List.mem_singleton.mp m]; exact good_num g⟩
theorem sides_read : ∀ (k : Nat) (l : List Nat), ∃ p, ReadS k l (sidesOf k l).1 (sidesOf k l).2 p
  | 0, l => by
    unfold sidesOf
    cases h : numOf l with
    | none => exact ⟨[], read_none 0 h⟩
    | some x => exact read_last h (.inl rfl)
  | k + 1, l => by
    unfold sidesOf
    cases h : numOf l with
    | none => exact ⟨[], read_none _ h⟩
    | some x =>
      obtain ⟨n, r⟩ := x
      by_cases e : r.head? = some 120
      · simp only [if_pos e]
        obtain ⟨q, rfl⟩ : ∃ q, r = 120 :: q := by
          cases r with
          | nil => simp at e
          | cons c q => simp at e; exact ⟨q, by rw [e]⟩
        obtain ⟨w, rfl, g, rfl, hd⟩ := numOf_some h
        obtain ⟨p, R⟩ := sides_read k q
        have a : ∀ (z : List Nat) (b : Bool), aut (k + 1) [] (w ++ 120 :: z) b = aut k [] z b := fun z b => by
          rw [aut_word _ g, aut, if_pos rfl, g]
          simp
        refine ⟨w ++ 120 :: p, ?_, ?_, fun c z hz => ?_, fun hn => ?_, fun ns hs => ?_⟩
        · show w ++ 120 :: q = w ++ 120 :: p ++ (sidesOf k q).2
          rw [List.append_assoc, List.cons_append, ← R.eq]
        · rw [a]; exact R.beg
        · rw [List.append_assoc, List.cons_append, a]
          exact R.dead c z hz
        · rw [a]
          exact R.bad (by simpa using hn)
        · obtain ⟨ms, hm, rfl⟩ : ∃ ms, (sidesOf k q).1 = some ms ∧ (digitsVal w : Int) :: ms = ns := by simpa using hs
          obtain ⟨h1, h2, h3, h4, h5⟩ := R.ok ms hm
          refine ⟨by rw [a]; exact h1, ?_, by simp, by simp; omega, fun n m => ?_⟩
          · rw [spl, spA_free _ _ (good_x g), List.nil_append, spA, if_pos rfl, List.map_cons]
            exact congrArg _ h2
          · rcases List.mem_cons.mp m with rfl | m
            · exact good_num g
            · exact h5 n m
      · simp only [if_neg e]
        exact read_last h (.inr e)
theorem spl_aut (k : Nat) (L : List Nat) (b : Bool) : textB (k + 1) (spl 120 L) b = aut k [] L b := textB_aut L k []
theorem first_bad {f : Nat → Bool} {n m : Nat} (h1 : ∀ k, k < m → f k = false) (h2 : m < n → f m = true) (h3 : m ≤ n) : ((List.range n).filter f ++ [n]).head? = some m := by
  rcases Nat.lt_or_eq_of_le h3 with lt | rfl
  · obtain ⟨j, rfl⟩ : ∃ j, n = m + (j + 1) := ⟨n - m - 1, by omega⟩
    rw [List.range_add, List.filter_append]
    have e : (List.range m).filter f = [] := List.filter_eq_nil_iff.mpr fun k hk => by simp [h1 k (List.mem_range.mp hk)]
    rw [e, List.nil_append, List.range_succ_eq_map, List.map_cons, List.filter_cons, Nat.add_zero, if_pos (h2 lt)]
    rfl
  · have e : (List.range m).filter f = [] := List.filter_eq_nil_iff.mpr fun k hk => by simp [h1 k (List.mem_range.mp hk)]
    rw [e]
    rfl
end TW
set_option Elab.async false
set_option linter.all false
set_option maxRecDepth 100000
set_option maxHeartbeats 4000000
namespace TW
open PySem PySem.Spec PyProof.Rows L2 DL
def badD (a : PyData) : PyData := excD "BadText" [("place", a)]
def posD (n : Nat) : PyData := .int (n : Int)
def sp_number_atX : DSp := fun cs R => ∃ (L : List Nat) (a : Nat), cs = [.d (tS L), .d (.int (a : Int))] ∧ a ≤ L.length ∧ L.length ≤ 100000 ∧ R (match numOf (L.drop a) with | none => badD (posD a) | some (n, r) => .tuple [.int (n : Int), posD (L.length - r.length)]) cs
def sp_sides_atX : DSp := fun cs R => ∃ (L : List Nat) (a k : Nat), cs = [.d (tS L), .d (.int (a : Int)), .d (.int (k + 1 : Nat))] ∧ a ≤ L.length ∧ L.length ≤ 100000 ∧ k ≤ 7 ∧ R (match sidesOf k (L.drop a) with | (none, r) => badD (posD (L.length - r.length)) | (some ns, r) => .tuple [tI ns, posD (L.length - r.length)]) cs
def sp_require_textX : DSp := fun cs R => ∃ v : PyData, cs = [.d v] ∧ R (if isTy "str" v = true then .none else badD .none) cs
def okS (v : PyData) : Prop := ∀ z, v = .str z → z.length ≤ 100000
def w_number_atX_1 : DTS := (wPar2 2 1 (msCons (mE (wOp pAddB (wOp pMulT (wVar 2) (wC (.int 10))) (wFn pInt (wCons (wOp pIx (wVar 0) (wVar 1)) wNil)))) (msCons (mE (wOp pAddB (wVar 1) (wC (.int 1)))) msNil)))
def w_number_atX_t1 : DTS := (wRet (wTup (wCons (wVar 2) (wCons (wVar 1) wNil))))
def w_number_atX_s1 : DTS := (wSeq (wWhile (wAnd (wB (wOp pLt (wVar 1) (wFn pLen (wCons (wVar 0) wNil)))) (wAnd (wB (wOp pIn (wOp pIx (wVar 0) (wVar 1)) (wC (.str "0123456789")))) (wB (wOp pLe (wOp pAddB (wOp pMulT (wVar 2) (wC (.int 10))) (wFn pInt (wCons (wOp pIx (wVar 0) (wVar 1)) wNil))) (wC (.int 1000000000000)))))) w_number_atX_1) w_number_atX_t1)
@[simp ↓] theorem w_number_atX_s1_ap (E : DEnds) (δ : DS) : w_number_atX_s1 E δ = (wSeq (wWhile (wAnd (wB (wOp pLt (wVar 1) (wFn pLen (wCons (wVar 0) wNil)))) (wAnd (wB (wOp pIn (wOp pIx (wVar 0) (wVar 1)) (wC (.str "0123456789")))) (wB (wOp pLe (wOp pAddB (wOp pMulT (wVar 2) (wC (.int 10))) (wFn pInt (wCons (wOp pIx (wVar 0) (wVar 1)) wNil))) (wC (.int 1000000000000)))))) w_number_atX_1) w_number_atX_t1) E δ := rfl
def w_number_atX_3 : DTS := (wRaise (wMk1 "BadText" "place" (wCons (wVar 1) wNil)))
def w_number_atX_t2 : DTS := (wSeq (wSet 2 (mE (wC (.int 0)))) w_number_atX_s1)
def w_number_atX : DTS := (wSeq (wIf (wOr (wB (wOp pEq (wVar 1) (wFn pLen (wCons (wVar 0) wNil)))) (wOr (wB (wOp pEq (wOp pIx (wVar 0) (wVar 1)) (wC (.str "0")))) (wB (wOp pNotIn (wOp pIx (wVar 0) (wVar 1)) (wC (.str "0123456789")))))) w_number_atX_3 wNext) w_number_atX_t2)
def w_sides_atX_1 : DTS := (wSeq (wAsgGX (wCallX [] sp_number_atX (xA (wCons (wVar 0) (wCons (wOp pAddB (wVar 1) (wC (.int 1))) wNil)))) (gT (gsCons (gN 3) (gsCons (gN 1) gsNil)))) (wAppend 4 (wVar 3)))
def w_sides_atX_t1 : DTS := (wRet (wTup (wCons (wFn pTupOf (wCons (wVar 4) wNil)) (wCons (wVar 1) wNil))))
def w_sides_atX_s1 : DTS := (wSeq (wWhile (wAnd (wB (wOp pLt (wVar 1) (wFn pLen (wCons (wVar 0) wNil)))) (wAnd (wB (wOp pEq (wOp pIx (wVar 0) (wVar 1)) (wC (.str "x")))) (wB (wOp pLt (wFn pLen (wCons (wVar 4) wNil)) (wVar 2))))) w_sides_atX_1) w_sides_atX_t1)
@[simp ↓] theorem w_sides_atX_s1_ap (E : DEnds) (δ : DS) : w_sides_atX_s1 E δ = (wSeq (wWhile (wAnd (wB (wOp pLt (wVar 1) (wFn pLen (wCons (wVar 0) wNil)))) (wAnd (wB (wOp pEq (wOp pIx (wVar 0) (wVar 1)) (wC (.str "x")))) (wB (wOp pLt (wFn pLen (wCons (wVar 4) wNil)) (wVar 2))))) w_sides_atX_1) w_sides_atX_t1) E δ := rfl
def w_sides_atX_s2 : DTS := (wSeq (wSet 4 (mL (wLst (wCons (wVar 3) wNil)))) w_sides_atX_s1)
@[simp ↓] theorem w_sides_atX_s2_ap (E : DEnds) (δ : DS) : w_sides_atX_s2 E δ = (wSeq (wSet 4 (mL (wLst (wCons (wVar 3) wNil)))) w_sides_atX_s1) E δ := rfl
def w_sides_atX : DTS := (wSeq (wAsgGX (wCallX [] sp_number_atX (xA (wCons (wVar 0) (wCons (wVar 1) wNil)))) (gT (gsCons (gN 3) (gsCons (gN 1) gsNil)))) w_sides_atX_s2)
def w_require_textX_1 : DTS := (wRaise (wMk1 "BadText" "place" (wCons (wC .none) wNil)))
def w_require_textX : DTS := (wIf (wNot (wB (wIsi "str" (wVar 0)))) w_require_textX_1 wNext)
theorem ln_number_atX : ∀ cs R, sp_number_atX cs R → cs.length = 2 := by
  intro cs R h
  unfold sp_number_atX at h
  repeat (obtain ⟨_, h⟩ := h)
  subst_vars; rfl
theorem ln_sides_atX : ∀ cs R, sp_sides_atX cs R → cs.length = 3 := by
  intro cs R h
  unfold sp_sides_atX at h
  repeat (obtain ⟨_, h⟩ := h)
  subst_vars; rfl
theorem ln_require_textX : ∀ cs R, sp_require_textX cs R → cs.length = 1 := by
  intro cs R h
  unfold sp_require_textX at h
  repeat (obtain ⟨_, h⟩ := h)
  subst_vars; rfl
end TW
set_option Elab.async false
set_option linter.all false
set_option maxRecDepth 100000
set_option maxHeartbeats 4000000
namespace TW
open PySem PySem.Spec PyProof.Rows L2 DL
open PySem.NumText
theorem rd_require_textX : ∀ cs R, sp_require_textX cs R → w_require_textX (endsOf cs R) (start0 1 cs) := by
  rintro _ R ⟨v, rfl, hR⟩
  simp -implicitDefEqProofs -dsimp [w_require_textX]
  by_cases h : isTy "str" v = true
  · rw [if_pos h] at hR ⊢
    exact hR
  · rw [if_neg h] at hR ⊢
    simp -implicitDefEqProofs -dsimp [w_require_textX_1]
    exact hR
theorem numOf_cons (c : Nat) (r : List Nat) : numOf (c :: r) = if 49 ≤ c ∧ c ≤ 57 then some (scan (c - 48) r) else none := rfl
theorem drop_at {L : List Nat} {a c : Nat} (h : L[a]? = some c) : L.drop a = c :: L.drop (a + 1) := by
  obtain ⟨lt, e⟩ := List.getElem?_eq_some_iff.mp h
  rw [List.drop_eq_getElem_cons lt, e]
theorem scan_first {c : Nat} {r : List Nat} (h : 49 ≤ c ∧ c ≤ 57) : scan 0 (c :: r) = scan (c - 48) r := by
  rw [scan, if_pos ⟨by omega, by omega⟩, Nat.zero_mul, Nat.zero_add]
theorem rd_number_atX : ∀ cs R, sp_number_atX cs R → w_number_atX (endsOf cs R) (start0 3 cs) := by
  rintro _ R ⟨L, a, rfl, ha, hl, hR⟩
  have p10 : (10 : Nat) ^ 12 = 1000000000000 := by decide
  rcases Nat.lt_or_eq_of_le ha with lt | rfl
  · obtain ⟨c, ac⟩ : ∃ c, L[a]? = some c := ⟨_, List.getElem?_eq_getElem lt⟩
    rw [drop_at ac, numOf_cons] at hR
    simp -implicitDefEqProofs -dsimp [w_number_atX, tS, len_S, ac, zero_S, fig_mem]
    refine ⟨by omega, ?_⟩
    rw [if_neg (by omega)]
    refine ⟨by omega, ?_⟩
    by_cases h1 : 49 ≤ c ∧ c ≤ 57
    · rw [if_pos h1, ← scan_first (r := L.drop (a + 1)) h1, ← drop_at ac] at hR
      generalize hz : scan 0 (L.drop a) = z at hR
      rw [if_neg (by omega)]
      refine ⟨by omega, ?_⟩
      rw [if_pos ((fig_memA c).mpr (by omega))]
      simp -implicitDefEqProofs -dsimp [w_number_atX_t2, w_number_atX_s1]
      refine while_plain (fun m δ => ∃ p v : Nat, m = L.length - p ∧ p ≤ L.length ∧ v ≤ 10 ^ 12 ∧ scan v (L.drop p) = z ∧ δ = [.d (.str ⟨L.toArray⟩), .d (.int (p : Int)), .d (.int (v : Int))])
        (fun δ => δ = [.d (.str ⟨L.toArray⟩), .d (posD (L.length - z.2.length)), .d (.int (z.1 : Int))]) (L.length - a) ⟨a, 0, rfl, ha, by omega, hz, rfl⟩ ?_ ?_
      · rintro δ rfl
        simp -implicitDefEqProofs -dsimp [w_number_atX_t1]
        exact hR
      · rintro m δ ⟨p, v, rfl, hp, hv, hs, rfl⟩ K Nn T hK hN
        rcases Nat.lt_or_eq_of_le hp with pl | rfl
        · obtain ⟨d, ad⟩ : ∃ d, L[p]? = some d := ⟨_, List.getElem?_eq_getElem pl⟩
          have hd := drop_at ad
          rw [hd, scan] at hs
          have out : ¬ ((48 ≤ d ∧ d ≤ 57) ∧ v * 10 + (d - 48) ≤ 10 ^ 12) → Nn [.d (.str ⟨L.toArray⟩), .d (.int (p : Int)), .d (.int (v : Int))] := fun no => by
            rw [if_neg no] at hs
            subst hs
            have e : L.length - (d :: L.drop (p + 1)).length = p := by simp; omega
            refine hN _ ?_
            show ([.d (.str ⟨L.toArray⟩), .d (.int (p : Int)), .d (.int (v : Int))] : DS) = [_, .d (posD (L.length - (d :: L.drop (p + 1)).length)), _]
            rw [e]
            rfl
          simp -implicitDefEqProofs -dsimp [len_S, ad, fig_mem, w_number_atX_1]
          refine ⟨by omega, ?_⟩
          rw [if_pos pl]
          refine ⟨by omega, ?_⟩
          by_cases hc : 48 ≤ d ∧ d ≤ 57
          · have cm : CMul (v : Int) 10 ∨ CMulW (v : Int) 10 := mul_big (by unfold BIG; omega) (by unfold BIG; omega) (by unfold BIG; omega) (by unfold BIG; omega)
            rw [if_pos ((fig_memA d).mpr hc)]
            simp -implicitDefEqProofs -dsimp [one_digit hc]
            refine ⟨cm, by omega, ?_⟩
            by_cases hv' : v * 10 + (d - 48) ≤ 10 ^ 12
            · rw [if_pos ⟨hc, hv'⟩] at hs
              rw [if_pos (by omega)]
              refine ⟨cm, by omega, hK (L.length - (p + 1)) _ (by omega) ⟨p + 1, v * 10 + (d - 48), rfl, pl, hv', hs, by push_cast; rfl⟩⟩
            · rw [if_neg (by omega)]
              exact out fun z => hv' z.2
          · rw [if_neg fun z => hc ((fig_memA d).mp z)]
            exact out fun z => hc z.1
        · have hs' : z = (v, []) := by rw [← hs, List.drop_length]; rfl
          subst hs'
          simp -implicitDefEqProofs -dsimp [len_S]
          exact ⟨by omega, hN _ rfl⟩
    · rw [if_neg h1] at hR
      have fin : w_number_atX_3
          { nx := w_number_atX_t2 (endsOf [Cell.d (PyData.str { cps := L.toArray }), Cell.d (PyData.int ↑a)] R),
            rt := (endsOf [Cell.d (PyData.str { cps := L.toArray }), Cell.d (PyData.int ↑a)] R).rt,
            bk := (endsOf [Cell.d (PyData.str { cps := L.toArray }), Cell.d (PyData.int ↑a)] R).bk,
            ct := (endsOf [Cell.d (PyData.str { cps := L.toArray }), Cell.d (PyData.int ↑a)] R).ct }
          [Cell.d (PyData.str { cps := L.toArray }), Cell.d (PyData.int ↑a), Cell.em] := by
        simp -implicitDefEqProofs -dsimp [w_number_atX_3]
        exact hR
      by_cases h2 : c = 48
      · rw [if_pos h2]
        exact fin
      · rw [if_neg h2]
        refine ⟨by omega, ?_⟩
        rw [if_neg fun z => by have := (fig_memA c).mp z; omega]
        exact fin
  · rw [List.drop_length] at hR
    simp -implicitDefEqProofs -dsimp [w_number_atX, tS, len_S, w_number_atX_3]
    refine ⟨by omega, ?_⟩
    exact hR
def contS (j : Nat) (r : List Nat) : Option (List Int) × List Nat := if 0 < j ∧ r.head? = some 120 then sidesOf (j - 1) r.tail else (some [], r)
theorem sidesOf_cont (k : Nat) (l : List Nat) : sidesOf k l = match numOf l with | none => (none, l) | some (n, r) => ((contS k r).1.map ((n : Int) :: ·), (contS k r).2) := by
  cases k with
  | zero => unfold sidesOf contS; cases numOf l <;> simp
  | succ k =>
    unfold sidesOf contS
    cases numOf l with
    | none => rfl
    | some x =>
      obtain ⟨n, r⟩ := x
      by_cases h : r.head? = some 120
      · simp [h]
      · simp [h]
theorem suff_len {l r : List Nat} {n : Nat} (h : numOf l = some (n, r)) : r.length < l.length := by
  obtain ⟨w, rfl, g, _⟩ := numOf_some h
  have := List.length_pos_iff.mpr (goodB_ne g)
  simp; omega
theorem suff_drop {L r : List Nat} {a n : Nat} (ha : a ≤ L.length) (h : numOf (L.drop a) = some (n, r)) : r = L.drop (L.length - r.length) ∧ L.length - r.length ≤ L.length ∧ a < L.length - r.length := by
  obtain ⟨w, e, g, _⟩ := numOf_some h
  have l := suff_len h
  rw [List.length_drop] at l
  have e2 := congrArg (List.drop w.length) e
  rw [List.drop_append_of_le_length (Nat.le_refl _), List.drop_length, List.nil_append, List.drop_drop] at e2
  have e3 := congrArg List.length e
  rw [List.length_drop, List.length_append] at e3
  have : a + w.length = L.length - r.length := by omega
  rw [this] at e2
  exact ⟨e2.symm, by omega, by omega⟩
theorem rd_sides_atX : ∀ cs R, sp_sides_atX cs R → w_sides_atX (endsOf cs R) (start0 5 cs) := by
  rintro _ R ⟨L, a, k, rfl, ha, hl, k7, hR⟩
  simp -implicitDefEqProofs -dsimp [w_sides_atX]
  refine ask_of (sp := sp_number_atX) ⟨L, a, rfl, ha, hl, ?_⟩
  rw [sidesOf_cont] at hR
  cases h : numOf (L.drop a) with
  | none =>
    rw [h] at hR
    have e : L.length - (L.drop a).length = a := by simp; omega
    simp only [e] at hR
    simp -implicitDefEqProofs -dsimp [badD]
    exact hR
  | some x =>
    obtain ⟨n, r⟩ := x
    obtain ⟨e, q1, q2⟩ := suff_drop ha h
    rw [h] at hR
    simp only at hR
    simp -implicitDefEqProofs -dsimp [w_sides_atX_s2, posD]
    intro fa
    generalize L.length - r.length = p0 at *
    subst e
    generalize hF : (((contS k (L.drop p0)).1.map ((n : Int) :: ·), (contS k (L.drop p0)).2) : Option (List Int) × List Nat) = F at hR
    refine while_inv (fun m δ => ∃ (ds : List Int) (j p : Nat) (c3 : Int), j = m ∧ p ≤ L.length ∧ 0 < ds.length ∧ ds.length + j = k + 1 ∧ ((contS j (L.drop p)).1.map (ds ++ ·), (contS j (L.drop p)).2) = F ∧ δ = [.d (tS L), .d (.int (p : Int)), .d (.int (k + 1 : Nat)), .d (.int c3), .ol fa (lI ds)])
      (fun δ => ∃ c3, ∃ ds, F.1 = some ds ∧ δ = [.d (tS L), .d (posD (L.length - F.2.length)), .d (.int (k + 1 : Nat)), c3, .ol fa (lI ds)])
      (fun x δ => ∃ c1 c3 c4, F.1 = none ∧ x = badD (posD (L.length - F.2.length)) ∧ δ = [.d (tS L), c1, .d (.int (k + 1 : Nat)), c3, c4]) k ⟨[(n : Int)], k, p0, n, rfl, q1, by simp, by simp; omega, hF, by simp [lI]⟩ ?_ ?_ ?_
    · rintro δ ⟨c3, ds, e, rfl⟩
      obtain ⟨o, q⟩ := F
      simp only at e
      subst e
      simp -implicitDefEqProofs -dsimp [w_sides_atX_t1]
      exact hR
    · rintro x δ ⟨c1, c3, c4, e, rfl, rfl⟩
      obtain ⟨o, q⟩ := F
      simp only at e
      subst e
      (try simp -implicitDefEqProofs -dsimp)
      exact hR
    · rintro m δ ⟨ds, j, p, c3, rfl, hp, d0, dj, hF', rfl⟩ K Nn T hK hN hT
      have out : ¬ (0 < j ∧ (L.drop p).head? = some 120) → Nn [.d (tS L), .d (.int (p : Int)), .d (.int (k + 1 : Nat)), .d (.int c3), .ol fa (lI ds)] := fun no => by
        refine hN _ ⟨.d (.int c3), ds, ?_⟩
        unfold contS at hF'
        rw [if_neg no] at hF'
        subst hF'
        have e : L.length - (L.drop p).length = p := by simp; omega
        simp only [e]
        exact ⟨by simp, rfl⟩
      rcases Nat.lt_or_eq_of_le hp with pl | rfl
      · obtain ⟨c, ac⟩ : ∃ c, L[p]? = some c := ⟨_, List.getElem?_eq_getElem pl⟩
        have hd := drop_at ac
        simp -implicitDefEqProofs -dsimp [tS, len_S, ac, x_S]
        refine ⟨by omega, ?_⟩
        rw [if_pos pl]
        refine ⟨by omega, ?_⟩
        by_cases hc : c = 120
        · subst hc
          rw [if_pos rfl]
          by_cases hj : 0 < j
          · rw [if_pos (by omega)]
            unfold contS at hF'
            rw [if_pos ⟨hj, by rw [hd]; rfl⟩, hd, List.tail_cons, sidesOf_cont] at hF'
            simp -implicitDefEqProofs -dsimp [w_sides_atX_1]
            refine ask_of (sp := sp_number_atX) ⟨L, p + 1, rfl, pl, hl, ?_⟩
            cases h' : numOf (L.drop (p + 1)) with
            | none =>
              rw [h'] at hF'
              subst hF'
              have e : L.length - (L.drop (p + 1)).length = p + 1 := by simp; omega
              simp -implicitDefEqProofs -dsimp [badD]
              refine hT _ _ ⟨_, _, _, rfl, ?_, rfl⟩
              simp only [e]
              rfl
            | some x =>
              obtain ⟨n', r'⟩ := x
              obtain ⟨e', q1', q2'⟩ := suff_drop pl h'
              rw [h'] at hF'
              simp only at hF'
              simp -implicitDefEqProofs -dsimp [posD]
              generalize L.length - r'.length = p1 at *
              subst e'
              refine ⟨⟨fa, _, rfl⟩, by omega, ?_⟩
              refine hK (j - 1) _ (by omega) ⟨ds ++ [(n' : Int)], j - 1, p1, n', rfl, q1', by simp, by simp; omega, ?_, by simp [lI, tS]⟩
              rw [← hF']
              generalize contS (j - 1) (L.drop p1) = Z
              obtain ⟨o, q⟩ := Z
              cases o <;> simp
          · rw [if_neg (by omega)]
            exact out fun z => hj z.1
        · rw [if_neg hc]
          refine out fun z => hc ?_
          rw [hd] at z
          simpa using z.2
      · simp -implicitDefEqProofs -dsimp [tS, len_S]
        refine ⟨by omega, ?_⟩
        exact out fun z => by simp at z
theorem eqv_nil (ys : List PyData) : (PyData.eqvAll ys [] = true) = (ys = []) := by cases ys <;> simp [PyData.eqvAll]
end TW
set_option Elab.async false
set_option linter.all false
set_option maxRecDepth 100000
set_option maxHeartbeats 4000000
namespace TW
open PySem PySem.NumText DL
def limA (ax : Option Nat) : Nat := match ax with | none => 4 | some a => min 4 a
def fitA (ax : Option Nat) (n : Nat) (b : Bool) : Bool := match ax with | none => true | some a => !b || decide (n = a)
def groupB (ax : Option Nat) (g : List Nat) (b : Bool) : Bool := textB (limA ax) (spl 120 g) b && fitA ax (spl 120 g).length b
def axesOf (gs : List (List Nat)) : Option Nat := if gs.length > 1 then some (spl 120 (gs.headD [])).length else none
def rowBT (j : Nat) (ax : Option Nat) (gs : List (List Nat)) (b : Bool) : Bool := decide (gs.length ≤ j) && gs.dropLast.all (fun g => groupB ax g true) && groupB ax (gs.getLastD []) b
def kindsB (gs : List (List Nat)) (b : Bool) : Bool := rowBT 4 (axesOf gs) gs b
def kaut (j : Nat) (ax : Option Nat) (g : List Nat) : List Nat → Bool → Bool
  | [], b => groupB ax g b
  | c :: r, b => if c = 32 then groupB (some (ax.getD (spl 120 g).length)) g true && (decide (0 < j) && kaut (j - 1) (some (ax.getD (spl 120 g).length)) [] r b) else kaut j ax (g ++ [c]) r b
theorem rowBT_cons {j : Nat} {ax : Option Nat} {g : List Nat} {gs : List (List Nat)} {b : Bool} (h : gs ≠ []) : rowBT (j + 1) ax (g :: gs) b = (groupB ax g true && rowBT j ax gs b) := by
  obtain ⟨v, r, rfl⟩ := List.exists_cons_of_ne_nil h
  unfold rowBT
  have e1 : (g :: v :: r).dropLast = g :: (v :: r).dropLast := rfl
  have e2 : (g :: v :: r).getLastD [] = (v :: r).getLastD [] := by simp [List.getLastD]
  have e3 : ((g :: v :: r).length ≤ j + 1) = ((v :: r).length ≤ j) := by simp
  rw [e1, e2, List.all_cons]
  simp only [e3]
  cases groupB ax g true <;> simp
theorem rowBT_zero {ax : Option Nat} {gs : List (List Nat)} {b : Bool} (h : gs ≠ []) : rowBT 0 ax gs b = false := by
  obtain ⟨v, r, rfl⟩ := List.exists_cons_of_ne_nil h
  simp [rowBT]
theorem rowBT_kaut {b : Bool} {a : Nat} : ∀ (L : List Nat) (j : Nat) (g : List Nat), rowBT (j + 1) (some a) (spA 32 g L) b = kaut j (some a) g L b
  | [], j, g => by simp [spA, rowBT, kaut]
  | c :: r, j, g => by
    unfold spA kaut
    split
    · rw [rowBT_cons (spA_ne 32 r [])]
      cases j with
      | zero => rw [rowBT_zero (spA_ne 32 r [])]; simp
      | succ j => rw [rowBT_kaut r j]; simp
    · exact rowBT_kaut r j _
theorem kindsB_kaut {b : Bool} : ∀ (L g : List Nat), kindsB (spA 32 g L) b = kaut 3 none g L b
  | [], g => by simp [spA, kindsB, axesOf, rowBT, kaut]
  | c :: r, g => by
    unfold spA kaut
    split
    · have hn := spA_ne 32 r []
      have : 1 < (g :: spA 32 [] r).length := by have := List.length_pos_iff.mpr hn; simp; omega
      rw [kindsB, axesOf, if_pos this, rowBT_cons hn, rowBT_kaut r 2]
      rfl
    · exact kindsB_kaut r _
theorem textB_pre {k : Nat} {p q : List Nat} {b : Bool} (h : textB k (spl 120 (p ++ q)) b = true) : textB k (spl 120 p) false = true := by
  cases k with
  | zero => rw [textB_zero (ws := spl 120 (p ++ q)) (spA_ne 120 (p ++ q) [])] at h; cases h
  | succ k =>
    rw [spl_aut] at h ⊢
    exact aut_pre q p h
theorem groupB_beg {ax : Option Nat} {p q : List Nat} {b : Bool} (h : groupB ax (p ++ q) b = true) : groupB ax p false = true := by
  simp only [groupB, Bool.and_eq_true] at h ⊢
  exact ⟨textB_pre h.1, by unfold fitA; cases ax <;> rfl⟩
theorem textB_mono {k m : Nat} {ws : List (List Nat)} {b : Bool} (h : textB k ws b = true) (km : k ≤ m) : textB m ws b = true := by
  simp only [textB, Bool.and_eq_true, decide_eq_true_eq] at h ⊢
  exact ⟨⟨by omega, h.1.2⟩, h.2⟩
theorem kaut_beg {b : Bool} : ∀ (L : List Nat) {j : Nat} {ax : Option Nat} {g : List Nat}, kaut j ax g L b = true → groupB ax g false = true
  | [], j, ax, g, h => groupB_beg (q := []) (b := b) (by rw [List.append_nil]; exact h)
  | c :: r, j, ax, g, h => by
    unfold kaut at h
    split at h
    · simp only [Bool.and_eq_true] at h
      have h1 := groupB_beg (q := []) (b := true) (by rw [List.append_nil]; exact h.1)
      cases ax with
      | some a => exact h1
      | none =>
        simp only [groupB, Bool.and_eq_true] at h1 ⊢
        exact ⟨textB_mono h1.1 (Nat.min_le_left ..), rfl⟩
    · exact groupB_beg (kaut_beg r h)
theorem kaut_pre {b : Bool} (q : List Nat) : ∀ (p : List Nat) {j : Nat} {ax : Option Nat} {g : List Nat}, kaut j ax g (p ++ q) b = true → kaut j ax g p false = true
  | [], j, ax, g, h => kaut_beg q h
  | c :: r, j, ax, g, h => by
    rw [List.cons_append] at h
    unfold kaut at h ⊢
    split at h
    · rename_i e
      rw [if_pos e]
      simp only [Bool.and_eq_true] at h ⊢
      exact ⟨h.1, h.2.1, kaut_pre q r h.2.2⟩
    · rename_i e
      rw [if_neg e]
      exact kaut_pre q r h
theorem kaut_free {b : Bool} {j : Nat} {ax : Option Nat} : ∀ {v : List Nat} (g l : List Nat), 32 ∉ v → kaut j ax g (v ++ l) b = kaut j ax (g ++ v) l b
  | [], g, l, _ => by simp
  | d :: v, g, l, h => by
    rw [List.cons_append, kaut, if_neg (fun e => h (by simp [e])), kaut_free _ _ fun m => h (by simp [m]), List.append_assoc]
    rfl
theorem aut_signs {b : Bool} : ∀ (L : List Nat) {k : Nat} {w : List Nat}, aut k w L b = true → (∀ c ∈ w, 48 ≤ c ∧ c ≤ 57) ∧ ∀ c ∈ L, (48 ≤ c ∧ c ≤ 57) ∨ c = 120
  | [], k, w, h => by
    refine ⟨fun c hc => ?_, fun c hc => by simp at hc⟩
    have h : numB w b = true := h
    simp only [numB, Bool.or_eq_true, Bool.and_eq_true] at h
    rcases h with h | h
    · exact (goodB_iff.mp h).1 c hc
    · rw [List.isEmpty_iff.mp h.1] at hc; simp at hc
  | c :: r, k, w, h => by
    unfold aut at h
    split at h
    · rename_i e
      simp only [Bool.and_eq_true] at h
      obtain ⟨_, h2⟩ := aut_signs r h.2.2
      exact ⟨(goodB_iff.mp h.1).1, fun d hd => (List.mem_cons.mp hd).elim (fun z => .inr (z.trans e)) (h2 d)⟩
    · obtain ⟨h1, h2⟩ := aut_signs r h
      exact ⟨fun d hd => h1 d (by simp [hd]), fun d hd => (List.mem_cons.mp hd).elim (fun z => .inl (by rw [z]; exact h1 c (by simp))) (h2 d)⟩
def groupsOf (a : Nat) : Nat → List Nat → Option (List (List Int)) × List Nat
  | 0, l => match sidesOf (a - 1) l with
    | (none, q) => (none, q)
    | (some s, q) => if s.length < a then (none, q) else (some [s], q)
  | j + 1, l => match sidesOf (a - 1) l with
    | (none, q) => (none, q)
    | (some s, q) => if s.length < a then (none, q) else if q.head? = some 32 then ((groupsOf a j q.tail).1.map (s :: ·), (groupsOf a j q.tail).2) else (some [s], q)
def kindsOf (l : List Nat) : Option (List (List Int)) × List Nat := match sidesOf 3 l with
  | (none, q) => (none, q)
  | (some s, q) => if q.head? = some 32 then ((groupsOf s.length 2 q.tail).1.map (s :: ·), (groupsOf s.length 2 q.tail).2) else (some [s], q)
def valG (g : List Nat) : List Int := (spl 120 g).map fun w => (digitsVal w : Int)
structure ReadK (j : Nat) (ax : Option Nat) (l : List Nat) (o : Option (List (List Int))) (r p : List Nat) : Prop where
  eq : l = p ++ r
  beg : kaut j ax [] p false = true
  dead : ∀ c q, r = c :: q → kaut j ax [] (p ++ [c]) false = false
  bad : o = none → kaut j ax [] p true = false
  ok : ∀ kss, o = some kss → kaut j ax [] p true = true ∧ (spl 32 p).map valG = kss ∧ 1 ≤ kss.length ∧ kss.length ≤ j + 1 ∧ ∀ ns ∈ kss, 1 ≤ ns.length ∧ ns.length ≤ 4 ∧ ∀ n ∈ ns, 1 ≤ n ∧ n ≤ 10 ^ 12
theorem kaut_grp {j : Nat} {ax : Option Nat} {p : List Nat} {b : Bool} (l : List Nat) (h : 32 ∉ p) : kaut j ax [] (p ++ l) b = kaut j ax p l b := by
  rw [kaut_free _ _ h, List.nil_append]
theorem kaut_one {j : Nat} {ax : Option Nat} {p : List Nat} {b : Bool} (h : 32 ∉ p) : kaut j ax [] p b = groupB ax p b := by
  have := kaut_grp (j := j) (ax := ax) (b := b) [] h
  rw [List.append_nil] at this
  exact this
theorem spl_grp {p : List Nat} (h : 32 ∉ p) : spl 32 p = [p] := by
  have := spA_free (c := 32) [] [] h
  rw [List.append_nil] at this
  rw [spl, this]
  rfl
theorem ReadS.noB {k : Nat} {l : List Nat} {o : Option (List Int)} {r p : List Nat} (R : ReadS k l o r p) : 32 ∉ p := fun m => by
  have := (aut_signs p R.beg).2 32 m
  omega
theorem dead_grp {j k : Nat} {ax : Option Nat} {l : List Nat} {o : Option (List Int)} {c : Nat} {r p q : List Nat} (R : ReadS k l o r p) (hl : limA ax = k + 1) (e : r = c :: q) (h32 : c = 32 → groupB (some (ax.getD (spl 120 p).length)) p true = false ∨ j = 0) :
    kaut j ax [] (p ++ [c]) false = false := by
  rw [kaut_grp _ R.noB]
  unfold kaut
  split
  · rename_i ec
    rcases h32 ec with z | z
    · rw [z]; rfl
    · subst z; simp
  · show groupB ax (p ++ [c]) false = false
    rw [groupB, hl, spl_aut, R.dead c q e]
    rfl
theorem groups_read {a : Nat} (a1 : 1 ≤ a) (a4 : a ≤ 4) : ∀ (j : Nat) (l : List Nat), ∃ p, ReadK j (some a) l (groupsOf a j l).1 (groupsOf a j l).2 p := by
  have hl : limA (some a) = a - 1 + 1 := by show min 4 a = _; omega
  have gb : ∀ (p : List Nat) (b : Bool), groupB (some a) p b = (aut (a - 1) [] p b && fitA (some a) (spl 120 p).length b) := fun p b => by rw [groupB, hl, spl_aut]
  have none_ : ∀ (j : Nat) (l : List Nat) (q p : List Nat), ReadS (a - 1) l none q p → ReadK j (some a) l none q p := fun j l q p R => by
    have b0 : groupB (some a) p true = false := by rw [gb, R.bad rfl]; rfl
    exact ⟨R.eq, by rw [kaut_one R.noB, gb, R.beg]; rfl, fun c z e => dead_grp R hl e fun _ => .inl b0, fun _ => by rw [kaut_one R.noB]; exact b0, fun _ h => by cases h⟩
  have len_ : ∀ (l : List Nat) (s : List Int) (q p : List Nat), ReadS (a - 1) l (some s) q p → (spl 120 p).length = s.length := fun l s q p R => by
    have := congrArg List.length (R.ok s rfl).2.1
    rwa [List.length_map] at this
  have short_ : ∀ (j : Nat) (l : List Nat) (s : List Int) (q p : List Nat), ReadS (a - 1) l (some s) q p → s.length < a → ReadK j (some a) l none q p := fun j l s q p R lt => by
    have hn := len_ l s q p R
    have b0 : groupB (some a) p true = false := by
      rw [gb, show fitA (some a) (spl 120 p).length true = false by simp [fitA]; omega]
      simp
    exact ⟨R.eq, by rw [kaut_one R.noB, gb, R.beg]; rfl, fun c z e => dead_grp R hl e fun _ => .inl b0, fun _ => by rw [kaut_one R.noB]; exact b0, fun _ h => by cases h⟩
  have full_ : ∀ (l : List Nat) (s : List Int) (q p : List Nat), ReadS (a - 1) l (some s) q p → ¬ s.length < a → groupB (some a) p true = true := fun l s q p R nlt => by
    have hn := len_ l s q p R
    obtain ⟨h1, h2, h3, h4, h5⟩ := R.ok s rfl
    rw [gb, h1, show fitA (some a) (spl 120 p).length true = true by simp [fitA]; omega]
    rfl
  have last_ : ∀ (j : Nat) (l : List Nat) (s : List Int) (q p : List Nat), ReadS (a - 1) l (some s) q p → ¬ s.length < a → (j = 0 ∨ q.head? ≠ some 32) → ReadK j (some a) l (some [s]) q p := fun j l s q p R nlt hj => by
    have g1 := full_ l s q p R nlt
    obtain ⟨h1, h2, h3, h4, h5⟩ := R.ok s rfl
    refine ⟨R.eq, by rw [kaut_one R.noB, gb, R.beg]; rfl, fun c z e => dead_grp R hl e fun ec => .inr (hj.elim id fun h => absurd (by rw [e, ec]; rfl) h), (fun h => by cases h), fun kss e => ?_⟩
    cases e
    refine ⟨by rw [kaut_one R.noB]; exact g1, ?_, by simp, by simp, fun ns hm => ?_⟩
    · rw [spl_grp R.noB]
      exact congrArg (fun x => [x]) h2
    · rw [List.mem_singleton.mp hm]
      exact ⟨h3, by omega, h5⟩
  intro j
  induction j with
  | zero =>
    intro l
    obtain ⟨p, R⟩ := sides_read (a - 1) l
    unfold groupsOf
    rcases hx : sidesOf (a - 1) l with ⟨o, q⟩
    rw [hx] at R
    cases o with
    | none => exact ⟨p, none_ _ _ _ _ R⟩
    | some s =>
      by_cases lt : s.length < a
      · simp only [if_pos lt]
        exact ⟨p, short_ _ _ _ _ _ R lt⟩
      · simp only [if_neg lt]
        exact ⟨p, last_ _ _ _ _ _ R lt (.inl rfl)⟩
  | succ j ih =>
    intro l
    obtain ⟨p, R⟩ := sides_read (a - 1) l
    unfold groupsOf
    rcases hx : sidesOf (a - 1) l with ⟨o, q⟩
    rw [hx] at R
    cases o with
    | none => exact ⟨p, none_ _ _ _ _ R⟩
    | some s =>
      by_cases lt : s.length < a
      · simp only [if_pos lt]
        exact ⟨p, short_ _ _ _ _ _ R lt⟩
      · simp only [if_neg lt]
        by_cases e : q.head? = some 32
        · simp only [if_pos e]
          obtain ⟨q, rfl⟩ : ∃ z, q = 32 :: z := by
            cases q with
            | nil => simp at e
            | cons c z => simp at e; exact ⟨z, by rw [e]⟩
          obtain ⟨p', K⟩ := ih q
          have g1 := full_ l s _ p R lt
          obtain ⟨h1, h2, h3, h4, h5⟩ := R.ok s rfl
          have A : ∀ (z : List Nat) (b : Bool), kaut (j + 1) (some a) [] (p ++ 32 :: z) b = kaut j (some a) [] z b := fun z b => by
            rw [kaut_grp _ R.noB, kaut, if_pos rfl, Option.getD_some, g1]
            simp
          refine ⟨p ++ 32 :: p', ?_, ?_, fun c z hz => ?_, fun hn => ?_, fun kss hs => ?_⟩
          · show l = p ++ 32 :: p' ++ (groupsOf a j q).2
            rw [List.append_assoc, List.cons_append, ← K.eq]
            exact R.eq
          · rw [A]; exact K.beg
          · rw [List.append_assoc, List.cons_append, A]
            exact K.dead c z hz
          · rw [A]
            exact K.bad (by simpa using hn)
          · obtain ⟨ms, hm, rfl⟩ : ∃ ms, (groupsOf a j q).1 = some ms ∧ s :: ms = kss := by simpa using hs
            obtain ⟨k1, k2, k3, k4, k5⟩ := K.ok ms hm
            refine ⟨by rw [A]; exact k1, ?_, by simp, by simp; omega, fun ns hm => ?_⟩
            · rw [spl, spA_free _ _ R.noB, List.nil_append, spA, if_pos rfl, List.map_cons]
              exact congr (congrArg _ h2) k2
            · rcases List.mem_cons.mp hm with rfl | hm
              · exact ⟨h3, by omega, h5⟩
              · exact k5 ns hm
        · simp only [if_neg e]
          exact ⟨p, last_ _ _ _ _ _ R lt (.inr e)⟩
theorem kinds_read (l : List Nat) : ∃ p, ReadK 3 none l (kindsOf l).1 (kindsOf l).2 p := by
  obtain ⟨p, R⟩ := sides_read 3 l
  have gb : ∀ (p : List Nat) (b : Bool), groupB none p b = aut 3 [] p b := fun p b => by
    rw [groupB, show limA none = 3 + 1 from rfl, spl_aut]
    simp [fitA]
  unfold kindsOf
  rcases hx : sidesOf 3 l with ⟨o, q⟩
  rw [hx] at R
  have wh : ∀ s, o = some s → groupB (some (spl 120 p).length) p true = true ∧ (spl 120 p).length = s.length := fun s e => by
    subst e
    obtain ⟨h1, h2, h3, h4, h5⟩ := R.ok s rfl
    have hn := congrArg List.length h2
    rw [List.length_map] at hn
    rw [← spl_aut] at h1
    refine ⟨?_, hn⟩
    simp only [groupB, limA, fitA, Bool.and_eq_true, Bool.not_true, Bool.false_or, decide_true, and_true]
    rw [Nat.min_eq_right (by omega)]
    simp only [textB, Bool.and_eq_true, decide_eq_true_eq] at h1 ⊢
    exact ⟨⟨Nat.le_refl _, h1.1.2⟩, h1.2⟩
  have b0 : o = none → groupB (some (spl 120 p).length) p true = false := fun e => by
    cases h : groupB (some (spl 120 p).length) p true with
    | false => rfl
    | true =>
      simp only [groupB, limA, Bool.and_eq_true] at h
      have := textB_mono h.1 (show min 4 (spl 120 p).length ≤ 3 + 1 from Nat.min_le_left ..)
      rw [spl_aut, R.bad e] at this
      cases this
  cases o with
  | none =>
    exact ⟨p, R.eq, by rw [kaut_one R.noB, gb]; exact R.beg, fun c z e => dead_grp R rfl e fun _ => .inl (b0 rfl), fun _ => by rw [kaut_one R.noB, gb]; exact R.bad rfl, fun _ h => by cases h⟩
  | some s =>
    obtain ⟨g1, hn⟩ := wh s rfl
    obtain ⟨h1, h2, h3, h4, h5⟩ := R.ok s rfl
    by_cases e : q.head? = some 32
    · simp only [if_pos e]
      obtain ⟨q, rfl⟩ : ∃ z, q = 32 :: z := by
        cases q with
        | nil => simp at e
        | cons c z => simp at e; exact ⟨z, by rw [e]⟩
      obtain ⟨p', K⟩ := groups_read (a := s.length) h3 h4 2 q
      have A : ∀ (z : List Nat) (b : Bool), kaut 3 none [] (p ++ 32 :: z) b = kaut 2 (some s.length) [] z b := fun z b => by
        rw [kaut_grp _ R.noB, kaut, if_pos rfl, Option.getD_none, g1, hn]
        simp
      refine ⟨p ++ 32 :: p', ?_, ?_, fun c z hz => ?_, fun hn => ?_, fun kss hs => ?_⟩
      · show l = p ++ 32 :: p' ++ (groupsOf s.length 2 q).2
        rw [List.append_assoc, List.cons_append, ← K.eq]
        exact R.eq
      · rw [A]; exact K.beg
      · rw [List.append_assoc, List.cons_append, A]
        exact K.dead c z hz
      · rw [A]
        exact K.bad (by simpa using hn)
      · obtain ⟨ms, hm, rfl⟩ : ∃ ms, (groupsOf s.length 2 q).1 = some ms ∧ s :: ms = kss := by simpa using hs
        obtain ⟨k1, k2, k3, k4, k5⟩ := K.ok ms hm
        refine ⟨by rw [A]; exact k1, ?_, by simp, by simp; omega, fun ns hm => ?_⟩
        · rw [spl, spA_free _ _ R.noB, List.nil_append, spA, if_pos rfl, List.map_cons]
          exact congr (congrArg _ h2) k2
        · rcases List.mem_cons.mp hm with rfl | hm
          · exact ⟨h3, by omega, h5⟩
          · exact k5 ns hm
    · simp only [if_neg e]
      refine ⟨p, R.eq, by rw [kaut_one R.noB, gb]; exact R.beg, fun c z e' => dead_grp R rfl e' fun ec => absurd (by rw [e', ec]; rfl) e, (fun h => by cases h), fun kss ek => ?_⟩
      cases ek
      refine ⟨by rw [kaut_one R.noB, gb]; exact h1, ?_, by simp, by simp, fun ns hm => ?_⟩
      · rw [spl_grp R.noB]
        exact congrArg (fun x => [x]) h2
      · rw [List.mem_singleton.mp hm]
        exact ⟨h3, by omega, h5⟩
def readK (L : List Nat) : Option (List (List Int)) := if (kindsOf L).2 = [] then (kindsOf L).1 else none
def badKT (L : List Nat) : Nat := L.length - (kindsOf L).2.length
theorem spl_kaut (L : List Nat) (b : Bool) : kindsB (spl 32 L) b = kaut 3 none [] L b := kindsB_kaut L []
theorem readK_ok {L : List Nat} {kss : List (List Int)} (h : readK L = some kss) : kindsB (spl 32 L) true = true ∧ (spl 32 L).map valG = kss ∧ 1 ≤ kss.length ∧ kss.length ≤ 4 ∧ ∀ ns ∈ kss, 1 ≤ ns.length ∧ ns.length ≤ 4 ∧ ∀ n ∈ ns, 1 ≤ n ∧ n ≤ 10 ^ 12 := by
  unfold readK at h
  split at h
  · rename_i e
    obtain ⟨p, R⟩ := kinds_read L
    have := R.eq
    rw [e, List.append_nil] at this
    subst this
    obtain ⟨h1, h2, h3, h4, h5⟩ := R.ok kss h
    exact ⟨by rw [spl_kaut]; exact h1, h2, h3, h4, h5⟩
  · simp at h
theorem readK_bad {L : List Nat} (h : readK L = none) : kindsB (spl 32 L) true = false ∧ ((List.range L.length).filter (fun k => !kindsB (spl 32 (L.take (k + 1))) false) ++ [L.length]).head? = some (badKT L) := by
  obtain ⟨p, R⟩ := kinds_read L
  have e := R.eq
  have lp : badKT L = p.length := by
    have := congrArg List.length e
    rw [List.length_append] at this
    unfold badKT
    omega
  constructor
  · rw [spl_kaut]
    cases hr : (kindsOf L).2 with
    | nil =>
      rw [hr, List.append_nil] at e
      have hb := R.bad (by simpa [readK, hr] using h)
      rw [← e] at hb
      exact hb
    | cons c q =>
      cases hx : kaut 3 none [] L true with
      | false => rfl
      | true =>
        rw [e, hr, show p ++ c :: q = (p ++ [c]) ++ q by simp] at hx
        have := kaut_pre q _ hx
        rw [R.dead c q hr] at this
        simp at this
  · rw [lp]
    refine first_bad (fun k hk => ?_) (fun hk => ?_) (by have := congrArg List.length e; rw [List.length_append] at this; omega)
    · rw [spl_kaut]
      have t : L.take (k + 1) = p.take (k + 1) := by
        rw [e, List.take_append_of_le_length (by omega)]
      have b := R.beg
      rw [← List.take_append_drop (k + 1) p] at b
      rw [t, kaut_pre _ _ b]
      rfl
    · rw [spl_kaut]
      cases hr : (kindsOf L).2 with
      | nil => rw [hr, List.append_nil] at e; rw [e] at hk; omega
      | cons c q =>
        have t : L.take (p.length + 1) = p ++ [c] := by
          conv => lhs; rw [e, hr]
          rw [show p ++ c :: q = (p ++ [c]) ++ q by simp, List.take_append_of_le_length (by simp), List.take_of_length_le (by simp)]
        rw [t, R.dead c q hr]
        rfl
end TW
set_option Elab.async false
set_option linter.all false
set_option maxRecDepth 100000
set_option maxHeartbeats 4000000
namespace TW
open PySem PySem.NumText PySem.Spec PyProof.Rows L2 DL
structure SOk (n : Nat) (L : List Nat) : Prop where
  l : L.length ≤ n
  s : ∀ c ∈ L, c < 1000
theorem spA_mem {c : Nat} : ∀ (l v : List Nat), ∀ w ∈ spA c v l, w.length ≤ v.length + l.length ∧ ∀ x ∈ w, x ∈ v ∨ x ∈ l
  | [], v, w, h => by
    rw [spA, List.mem_singleton] at h
    subst h
    exact ⟨by simp, fun x hx => .inl hx⟩
  | d :: r, v, w, h => by
    unfold spA at h
    split at h
    · rcases List.mem_cons.mp h with rfl | h
      · exact ⟨by simp, fun x hx => .inl hx⟩
      · obtain ⟨h1, h2⟩ := spA_mem r [] w h
        exact ⟨by simp at h1 ⊢; omega, fun x hx => .inr ((h2 x hx).elim (fun z => by simp at z) fun z => by simp [z])⟩
    · obtain ⟨h1, h2⟩ := spA_mem r _ w h
      exact ⟨by simp at h1 ⊢; omega, fun x hx => by have := h2 x hx; simp at this ⊢; rcases this with (z | z) | z <;> simp [z]⟩
theorem SOk.word {n c : Nat} {L : List Nat} (h : SOk n L) : ∀ w ∈ spl c L, SOk n w := fun w hw => by
  obtain ⟨h1, h2⟩ := spA_mem L [] w hw
  exact ⟨by have := h.l; simp at h1; omega, fun c hc => (h2 c hc).elim (fun z => by simp at z) (h.s c)⟩
def ZOk (n : Nat) (z : Str) : Prop := SOk n z.cps.toList
theorem ZOk.app {n m : Nat} {x y : Str} (h : ZOk n x) (k : ZOk m y) : ZOk (n + m) (x ++ y) := by
  have e : (x ++ y).cps.toList = x.cps.toList ++ y.cps.toList := Array.toList_append
  unfold ZOk
  rw [e]
  exact ⟨by rw [List.length_append]; exact Nat.add_le_add h.l k.l, fun c hc => (List.mem_append.mp hc).elim (h.s c) (k.s c)⟩
theorem sOk_of {n : Nat} {s : Str} (h : (decide (s.cps.toList.length ≤ n) && s.cps.toList.all fun c => decide (c < 1000)) = true) : ZOk n s := by
  simp only [Bool.and_eq_true, decide_eq_true_eq, List.all_eq_true] at h
  exact ⟨h.1, h.2⟩
theorem ZOk.le {n m : Nat} {z : Str} (h : ZOk n z) (k : n ≤ m) : ZOk m z := ⟨Nat.le_trans h.l k, h.s⟩
theorem ZOk.cut {n : Nat} {z : Str} (h : ZOk n z) (lo hi : Option Int) : ZOk n (cutS z lo hi) :=
  ⟨by have := cutS_length z lo hi; have := h.l; simp only [Str.length, ← Array.length_toList] at *; omega, fun c hc => h.s c (List.mem_of_mem_drop (List.mem_of_mem_take (by simpa [cutS] using hc)))⟩
theorem ZOk.len {n : Nat} {z : Str} (h : ZOk n z) : z.length ≤ n := by have := h.l; simpa [Str.length] using this
end TW
set_option Elab.async false
set_option linter.all false
set_option maxRecDepth 100000
set_option maxHeartbeats 4000000
namespace TW
open PySem PySem.Spec PyProof.Rows L2 DL
def parseKD (v : PyData) : PyData := match v with
  | .str z => match readK z.cps.toList with | some kss => .tuple (kss.map tI) | none => badD (posD (badKT z.cps.toList))
  | _ => badD .none
def sp_parse_kindsX : DSp := fun cs R => ∃ v : PyData, cs = [.d v] ∧ okS v ∧ R (parseKD v) cs
def w_parse_kindsX_1 : DTS := (wRaise (wMk1 "BadText" "place" (wCons (wVar 2) wNil)))
def w_parse_kindsX_t1 : DTS := (wRet (wFn pTupOf (wCons (wVar 3) wNil)))
def w_parse_kindsX_3 : DTS := (wRaise (wMk1 "BadText" "place" (wCons (wVar 2) wNil)))
def w_parse_kindsX_s1 : DTS := (wSeq (wIf (wB (wOp pLt (wFn pLen (wCons (wVar 4) wNil)) (wFn pLen (wCons (wVar 1) wNil)))) w_parse_kindsX_3 wNext) (wAppend 3 (wVar 4)))
@[simp ↓] theorem w_parse_kindsX_s1_ap (E : DEnds) (δ : DS) : w_parse_kindsX_s1 E δ = (wSeq (wIf (wB (wOp pLt (wFn pLen (wCons (wVar 4) wNil)) (wFn pLen (wCons (wVar 1) wNil)))) w_parse_kindsX_3 wNext) (wAppend 3 (wVar 4))) E δ := rfl
def w_parse_kindsX_4 : DTS := (wSeq (wAsgGX (wCallX [] sp_sides_atX (xA (wCons (wVar 0) (wCons (wOp pAddB (wVar 2) (wC (.int 1))) (wCons (wFn pLen (wCons (wVar 1) wNil)) wNil))))) (gT (gsCons (gN 4) (gsCons (gN 2) gsNil)))) w_parse_kindsX_s1)
def w_parse_kindsX_t2 : DTS := (wSeq (wIf (wB (wOp pLt (wVar 2) (wFn pLen (wCons (wVar 0) wNil)))) w_parse_kindsX_1 wNext) w_parse_kindsX_t1)
def w_parse_kindsX_s2 : DTS := (wSeq (wWhile (wAnd (wB (wOp pLt (wVar 2) (wFn pLen (wCons (wVar 0) wNil)))) (wAnd (wB (wOp pEq (wOp pIx (wVar 0) (wVar 2)) (wC (.str " ")))) (wB (wOp pLt (wFn pLen (wCons (wVar 3) wNil)) (wC (.int 4)))))) w_parse_kindsX_4) w_parse_kindsX_t2)
@[simp ↓] theorem w_parse_kindsX_s2_ap (E : DEnds) (δ : DS) : w_parse_kindsX_s2 E δ = (wSeq (wWhile (wAnd (wB (wOp pLt (wVar 2) (wFn pLen (wCons (wVar 0) wNil)))) (wAnd (wB (wOp pEq (wOp pIx (wVar 0) (wVar 2)) (wC (.str " ")))) (wB (wOp pLt (wFn pLen (wCons (wVar 3) wNil)) (wC (.int 4)))))) w_parse_kindsX_4) w_parse_kindsX_t2) E δ := rfl
def w_parse_kindsX_s3 : DTS := (wSeq (wSet 3 (mL (wLst (wCons (wVar 1) wNil)))) w_parse_kindsX_s2)
@[simp ↓] theorem w_parse_kindsX_s3_ap (E : DEnds) (δ : DS) : w_parse_kindsX_s3 E δ = (wSeq (wSet 3 (mL (wLst (wCons (wVar 1) wNil)))) w_parse_kindsX_s2) E δ := rfl
def w_parse_kindsX_s4 : DTS := (wSeq (wAsgGX (wCallX [] sp_sides_atX (xA (wCons (wVar 0) (wCons (wC (.int 0)) (wCons (wC (.int 4)) wNil))))) (gT (gsCons (gN 1) (gsCons (gN 2) gsNil)))) w_parse_kindsX_s3)
@[simp ↓] theorem w_parse_kindsX_s4_ap (E : DEnds) (δ : DS) : w_parse_kindsX_s4 E δ = (wSeq (wAsgGX (wCallX [] sp_sides_atX (xA (wCons (wVar 0) (wCons (wC (.int 0)) (wCons (wC (.int 4)) wNil))))) (gT (gsCons (gN 1) (gsCons (gN 2) gsNil)))) w_parse_kindsX_s3) E δ := rfl
def w_parse_kindsX : DTS := (wSeq (wDropX (wCallX [] sp_require_textX (xA (wCons (wVar 0) wNil)))) w_parse_kindsX_s4)
theorem ln_parse_kindsX : ∀ cs R, sp_parse_kindsX cs R → cs.length = 1 := by
  intro cs R h
  unfold sp_parse_kindsX at h
  repeat (obtain ⟨_, h⟩ := h)
  subst_vars; rfl
end TW
set_option Elab.async false
set_option linter.all false
set_option maxRecDepth 100000
set_option maxHeartbeats 4000000
namespace TW
open PySem PySem.Spec PyProof.Rows L2 DL
def contK (a j : Nat) (r : List Nat) : Option (List (List Int)) × List Nat := if 0 < j ∧ r.head? = some 32 then groupsOf a (j - 1) r.tail else (some [], r)
theorem groupsOf_cont (a j : Nat) (l : List Nat) : groupsOf a j l = match sidesOf (a - 1) l with | (none, q) => (none, q) | (some s, q) => if s.length < a then (none, q) else ((contK a j q).1.map (s :: ·), (contK a j q).2) := by
  cases j with
  | zero =>
    unfold groupsOf contK
    rcases sidesOf (a - 1) l with ⟨o, q⟩
    cases o <;> simp
  | succ j =>
    unfold groupsOf contK
    rcases sidesOf (a - 1) l with ⟨o, q⟩
    cases o with
    | none => rfl
    | some s => by_cases h : q.head? = some 32 <;> simp [h]
theorem kindsOf_cont (l : List Nat) : kindsOf l = match sidesOf 3 l with | (none, q) => (none, q) | (some s, q) => ((contK s.length 3 q).1.map (s :: ·), (contK s.length 3 q).2) := by
  unfold kindsOf contK
  rcases sidesOf 3 l with ⟨o, q⟩
  cases o with
  | none => rfl
  | some s => by_cases h : q.head? = some 32 <;> simp [h]
theorem suffS (k : Nat) {L : List Nat} {a : Nat} (ha : a ≤ L.length) : (sidesOf k (L.drop a)).2 = L.drop (L.length - (sidesOf k (L.drop a)).2.length) ∧ L.length - (sidesOf k (L.drop a)).2.length ≤ L.length := by
  obtain ⟨p, R⟩ := sides_read k (L.drop a)
  have e := R.eq
  generalize (sidesOf k (L.drop a)).2 = r at e ⊢
  have e3 := congrArg List.length e
  rw [List.length_drop, List.length_append] at e3
  have e2 := congrArg (List.drop p.length) e
  rw [List.drop_append_of_le_length (Nat.le_refl _), List.drop_length, List.nil_append, List.drop_drop] at e2
  have : a + p.length = L.length - r.length := by omega
  rw [this] at e2
  exact ⟨e2.symm, by omega⟩
theorem rd_parse_kindsX : ∀ cs R, sp_parse_kindsX cs R → w_parse_kindsX (endsOf cs R) (start0 5 cs) := by
  rintro _ R ⟨v, rfl, hv, hR⟩
  simp -implicitDefEqProofs -dsimp [w_parse_kindsX]
  refine ask_of (sp := sp_require_textX) ⟨v, rfl, ?_⟩
  by_cases h : isTy "str" v = true
  · rw [if_pos h]
    obtain ⟨z, rfl⟩ : ∃ z, v = .str z := by cases v <;> first | exact ⟨_, rfl⟩ | exact absurd h (by simp)
    obtain ⟨⟨L⟩⟩ := z
    have hl : L.length ≤ 100000 := by have := hv _ rfl; rwa [len_S] at this
    simp -implicitDefEqProofs -dsimp [w_parse_kindsX_s4]
    refine ask_of (sp := sp_sides_atX) ⟨L, 0, 3, rfl, Nat.zero_le _, hl, by omega, ?_⟩
    rw [List.drop_zero]
    obtain ⟨hs1, hs2⟩ := suffS 3 (L := L) (a := 0) (Nat.zero_le _)
    rw [List.drop_zero] at hs1 hs2
    have hR' : R (match readK L with | some kss => .tuple (kss.map tI) | none => badD (posD (badKT L))) [.d (tS L)] := hR
    unfold readK badKT at hR'
    rw [kindsOf_cont] at hR'
    have rd := sides_read 3 L
    rcases hx : sidesOf 3 L with ⟨o, r⟩
    rw [hx] at hR' hs1 hs2 rd
    simp only at hR' hs1 hs2 rd
    cases o with
    | none =>
      simp -implicitDefEqProofs -dsimp [badD]
      have e : (if r = [] then (none : Option (List (List Int))) else none) = none := by split <;> rfl
      rw [e] at hR'
      exact hR'
    | some s =>
      obtain ⟨p, RS⟩ := rd
      obtain ⟨_, _, a1, a4, _⟩ := RS.ok s rfl
      simp -implicitDefEqProofs -dsimp [w_parse_kindsX_s3, posD]
      intro fa
      generalize L.length - r.length = p0 at *
      subst hs1
      simp only at hR'
      generalize hF : (((contK s.length 3 (L.drop p0)).1.map (s :: ·), (contK s.length 3 (L.drop p0)).2) : Option (List (List Int)) × List Nat) = F at hR'
      have hF1 : Option.map (s :: ·) (contK s.length 3 (L.drop p0)).1 = F.1 := by rw [← hF]
      have hF2 : (contK s.length 3 (L.drop p0)).2 = F.2 := by rw [← hF]
      simp only [hF1, hF2] at hR'
      have hFl : F.2.length ≤ L.length := by
        rw [← hF2]
        obtain ⟨p', RK⟩ := kinds_read L
        have e := congrArg List.length RK.eq
        rw [List.length_append, kindsOf_cont, hx] at e
        simp only at e
        omega
      refine while_inv (fun m δ => ∃ (ds : List (List Int)) (j p : Nat) (c4 : Cell), j = m ∧ p ≤ L.length ∧ 0 < ds.length ∧ ds.length + j = 4 ∧ ((contK s.length j (L.drop p)).1.map (ds ++ ·), (contK s.length j (L.drop p)).2) = F ∧ δ = [.d (tS L), .d (tI s), .d (.int (p : Int)), .ol fa (ds.map tI), c4])
        (fun δ => ∃ c4, ∃ ds, F.1 = some ds ∧ δ = [.d (tS L), .d (tI s), .d (posD (L.length - F.2.length)), .ol fa (ds.map tI), c4])
        (fun x δ => ∃ c1 c3 c4, F.1 = none ∧ x = badD (posD (L.length - F.2.length)) ∧ δ = [.d (tS L), .d (tI s), c1, c3, c4]) 3 ⟨[s], 3, p0, .em, rfl, hs2, by simp, by simp, hF, by simp; rfl⟩ ?_ ?_ ?_
      · rintro δ ⟨c4, ds, e, rfl⟩
        obtain ⟨o, q⟩ := F
        simp only at e hFl
        subst e
        simp -implicitDefEqProofs -dsimp [w_parse_kindsX_t2, posD, tS, len_S]
        refine ⟨by omega, ?_⟩
        cases q with
        | nil =>
          rw [if_neg (by simp)]
          simp -implicitDefEqProofs -dsimp [w_parse_kindsX_t1]
          exact hR'
        | cons c q =>
          rw [if_pos (by simp at hFl ⊢; omega)]
          simp -implicitDefEqProofs -dsimp [w_parse_kindsX_1]
          exact hR'
      · rintro x δ ⟨c1, c3, c4, e, rfl, rfl⟩
        obtain ⟨o, q⟩ := F
        simp only at e
        subst e
        (try simp -implicitDefEqProofs -dsimp)
        have e : (if q = [] then (none : Option (List (List Int))) else none) = none := by split <;> rfl
        rw [e] at hR'
        exact hR'
      · rintro m δ ⟨ds, j, p, c4, rfl, hp, d0, dj, hF', rfl⟩ K Nn T hK hN hT
        have out : ¬ (0 < j ∧ (L.drop p).head? = some 32) → Nn [.d (tS L), .d (tI s), .d (.int (p : Int)), .ol fa (ds.map tI), c4] := fun no => by
          refine hN _ ⟨c4, ds, ?_⟩
          unfold contK at hF'
          rw [if_neg no] at hF'
          subst hF'
          have e : L.length - (L.drop p).length = p := by simp; omega
          simp only [e]
          exact ⟨by simp, rfl⟩
        rcases Nat.lt_or_eq_of_le hp with pl | rfl
        · obtain ⟨c, ac⟩ : ∃ c, L[p]? = some c := ⟨_, List.getElem?_eq_getElem pl⟩
          have hd := drop_at ac
          simp -implicitDefEqProofs -dsimp [tS, len_S, ac, b_S]
          refine ⟨by omega, ?_⟩
          rw [if_pos pl]
          refine ⟨by omega, ?_⟩
          by_cases hc : c = 32
          · subst hc
            rw [if_pos rfl]
            by_cases hj : 0 < j
            · rw [if_pos (by omega)]
              unfold contK at hF'
              rw [if_pos ⟨hj, by rw [hd]; rfl⟩, hd, List.tail_cons, groupsOf_cont] at hF'
              simp -implicitDefEqProofs -dsimp [w_parse_kindsX_4, tI]
              refine ask_of (sp := sp_sides_atX) ⟨L, p + 1, s.length - 1, by rw [show s.length - 1 + 1 = s.length by omega]; simp; rfl, pl, hl, by omega, ?_⟩
              obtain ⟨hs3, hs4⟩ := suffS (s.length - 1) (L := L) pl
              rcases hy : sidesOf (s.length - 1) (L.drop (p + 1)) with ⟨o', r'⟩
              rw [hy] at hF' hs3 hs4
              simp only at hF' hs3 hs4
              cases o' with
              | none =>
                simp only at hF'
                subst hF'
                simp -implicitDefEqProofs -dsimp [badD]
                exact hT _ _ ⟨_, _, _, rfl, rfl, rfl⟩
              | some s' =>
                simp only at hF'
                simp -implicitDefEqProofs -dsimp [posD, w_parse_kindsX_s1, tI]
                by_cases lt : s'.length < s.length
                · rw [if_pos lt] at hF'
                  subst hF'
                  rw [if_pos lt]
                  simp -implicitDefEqProofs -dsimp [w_parse_kindsX_3]
                  exact hT _ _ ⟨_, _, _, rfl, rfl, rfl⟩
                · rw [if_neg lt] at hF'
                  rw [if_neg lt]
                  (try simp -implicitDefEqProofs -dsimp)
                  generalize L.length - r'.length = p1 at *
                  subst hs3
                  refine ⟨⟨fa, _, rfl⟩, by omega, ?_⟩
                  refine hK (j - 1) _ (by omega) ⟨ds ++ [s'], j - 1, p1, .d (tI s'), rfl, hs4, by simp, by simp; omega, ?_, by simp [tS, tI, lI]⟩
                  rw [← hF']
                  generalize contK s.length (j - 1) (L.drop p1) = Z
                  obtain ⟨o, q⟩ := Z
                  cases o <;> simp
            · rw [if_neg (by omega)]
              exact out fun z => hj z.1
          · rw [if_neg hc]
            refine out fun z => hc ?_
            rw [hd] at z
            simpa using z.2
        · simp -implicitDefEqProofs -dsimp [tS, len_S]
          refine ⟨by omega, ?_⟩
          exact out fun z => by simp at z
  · rw [if_neg h]
    simp -implicitDefEqProofs -dsimp [badD]
    have e : parseKD v = badD .none := by cases v <;> first | rfl | exact absurd (by simp) h
    rw [e] at hR
    exact hR
end TW
set_option Elab.async false
set_option linter.all false
set_option maxRecDepth 100000
set_option maxHeartbeats 4000000
namespace K76
open PySem PySem.Spec PyProof.Rows L2 DL TW
abbrev sp_law : DSp := spLaw
def kindD : PyData := .list [.str "kinds", .tuple [.none, .str "pair"]]
def readD2 (v : PyData) : PyData := match v with
  | .str z => match readK z.cps.toList with | some kss => (if kss.length = 2 then .list [.str "ok", .tuple (kss.map tI)] else kindD) | none => .list [.str "text", posD (badKT z.cps.toList)]
  | _ => .list [.str "text", .none]
def sp_Bricks_read : DSp := fun cs R => ∃ (C : Addr) (v : PyData), cs = [.gx (.nm C "Bricks"), .d v] ∧ okS v ∧
  ((∀ z, v ≠ .str z) → R (badD .none) cs) ∧ ∀ z, v = .str z → (readK z.cps.toList = none → R (badD (posD (badKT z.cps.toList))) cs) ∧ ∀ kss, readK z.cps.toList = some kss → (kss.length ≠ 2 → R (excD "BadKinds" [("error", .tuple [.none, .str "pair"])]) cs) ∧ ∀ a b, kss = [a, b] → Bk a b → R (brD a b) cs
def sp_Lread : DSp := fun cs R => ∃ v : PyData, cs = [.d v] ∧ okS v ∧ R (readD2 v) cs
def sp_Ldue_k76 : DSp := fun cs R => ∃ v : PyData, cs = [.d v] ∧ okS v ∧ R (readD2 v) cs
def w_Bricks_read_1 : DTS := (wRaise (wMk1 "BadKinds" "error" (wCons (wVar 3) wNil)))
def w_Bricks_read_t1 : DTS := (wRetX (wMakeL 0 "Bricks" sp_Bricks_init (wCons (wOp pIx (wVar 2) (wC (.int 0))) (wCons (wOp pIx (wVar 2) (wC (.int 1))) wNil))))
def w_Bricks_read_s1 : DTS := (wSeq (wIf (wB (wOp pIsNot (wVar 3) (wC .none))) w_Bricks_read_1 wNext) w_Bricks_read_t1)
@[simp ↓] theorem w_Bricks_read_s1_ap (E : DEnds) (δ : DS) : w_Bricks_read_s1 E δ = (wSeq (wIf (wB (wOp pIsNot (wVar 3) (wC .none))) w_Bricks_read_1 wNext) w_Bricks_read_t1) E δ := rfl
def w_Bricks_read_s2 : DTS := (wSeq (wSet 3 (mE (wCall [] sp_pair_error (wCons (wVar 2) wNil)))) w_Bricks_read_s1)
@[simp ↓] theorem w_Bricks_read_s2_ap (E : DEnds) (δ : DS) : w_Bricks_read_s2 E δ = (wSeq (wSet 3 (mE (wCall [] sp_pair_error (wCons (wVar 2) wNil)))) w_Bricks_read_s1) E δ := rfl
def w_Bricks_read : DTS := (wSeq (wSetX 2 (wCallX [] sp_parse_kindsX (xA (wCons (wVar 1) wNil)))) w_Bricks_read_s2)
def w_Lread_1 : DTS := (wSetX 1 (wLstX (axCons (xE (wC (.str "ok"))) (axCons (wPropX [] "Bricks" sp_Bricks_pair (wCMeth "Bricks" sp_Bricks_read (wCons (wVar 0) wNil))) axNil))))
def w_Lread : DTS := (wSeq (wNoX (wTryM [(some 2, fun (n : Str) => n == "BadText", fun a cls d => (wSet 1 (mE (wOfL (wLst (wCons (wC (.str "text")) (wCons (wXf a cls d 2 "place") wNil))))))), (some 2, fun (n : Str) => n == "BadKinds", fun a cls d => (wSet 1 (mE (wOfL (wLst (wCons (wC (.str "kinds")) (wCons (wXf a cls d 2 "error") wNil)))))))] w_Lread_1)) (wRet (wVar 1)))
def w_Ldue_k76_s1 : DTS := (wSet 2 (mE (wIfE (wB (wOp pEq (wFn pLen (wCons (wVar 1) wNil)) (wC (.int 2)))) (wOfL (wLst (wCons (wC (.str "ok")) (wCons (wVar 1) wNil)))) (wOfL (wLst (wCons (wC (.str "kinds")) (wCons (wTup (wCons (wC .none) (wCons (wC (.str "pair")) wNil))) wNil)))))))
@[simp ↓] theorem w_Ldue_k76_s1_ap (E : DEnds) (δ : DS) : w_Ldue_k76_s1 E δ = (wSet 2 (mE (wIfE (wB (wOp pEq (wFn pLen (wCons (wVar 1) wNil)) (wC (.int 2)))) (wOfL (wLst (wCons (wC (.str "ok")) (wCons (wVar 1) wNil)))) (wOfL (wLst (wCons (wC (.str "kinds")) (wCons (wTup (wCons (wC .none) (wCons (wC (.str "pair")) wNil))) wNil))))))) E δ := rfl
def w_Ldue_k76_1 : DTS := (wSeq (wSetX 1 (wCallX [] sp_parse_kindsX (xA (wCons (wVar 0) wNil)))) w_Ldue_k76_s1)
def w_Ldue_k76 : DTS := (wSeq (wNoX (wTry 3 (fun (n : Str) => n == "BadText") w_Ldue_k76_1 (fun a cls d => (wSet 2 (mE (wOfL (wLst (wCons (wC (.str "text")) (wCons (wXf a cls d 3 "place") wNil))))))))) (wRet (wVar 2)))
def w_law_1 : DTS := (wIf (wB (wOp pNe (wFn pReprN (wCons (wCall [] sp_Lread (wCons (wVar 8) wNil)) wNil)) (wFn pReprN (wCons (wCall [] sp_Ldue_k76 (wCons (wVar 8) wNil)) wNil)))) (wRet (wC (.bool false))) wNext)
def w_law_s1 : DTS := (wFor (iSeq (wOp pAddB (wVar 7) (wOfL (wLst (wCons (wCall [true] sp_Lodd (wCons (wVar 1) wNil)) wNil))))) (gN 8) w_law_1)
@[simp ↓] theorem w_law_s1_ap (E : DEnds) (δ : DS) : w_law_s1 E δ = (wFor (iSeq (wOp pAddB (wVar 7) (wOfL (wLst (wCons (wCall [true] sp_Lodd (wCons (wVar 1) wNil)) wNil))))) (gN 8) w_law_1) E δ := rfl
def w_law_s2 : DTS := (wSeq (wSet 7 (mE (wOfL (wLst (wCons (wSl pSl (wVar 5) wNoP (wPart (wVar 6))) (wCons (wOp pAddB (wOp pAddB (wSl pSl (wVar 5) wNoP (wPart (wVar 6))) (wC (.str " "))) (wSl pSl (wVar 5) (wPart (wVar 6)) wNoP)) (wCons (wOp pAddB (wOp pAddB (wSl pSl (wVar 5) wNoP (wPart (wVar 6))) (wC (.str "x"))) (wSl pSl (wVar 5) (wPart (wVar 6)) wNoP)) (wCons (wOp pAddB (wVar 5) (wC (.str " 1"))) (wCons (wRevS (wVar 5)) (wCons (wC (.str "")) (wCons (wC .none) (wCons (wOfL (wLst (wCons (wVar 5) wNil))) wNil)))))))))))) w_law_s1)
@[simp ↓] theorem w_law_s2_ap (E : DEnds) (δ : DS) : w_law_s2 E δ = (wSeq (wSet 7 (mE (wOfL (wLst (wCons (wSl pSl (wVar 5) wNoP (wPart (wVar 6))) (wCons (wOp pAddB (wOp pAddB (wSl pSl (wVar 5) wNoP (wPart (wVar 6))) (wC (.str " "))) (wSl pSl (wVar 5) (wPart (wVar 6)) wNoP)) (wCons (wOp pAddB (wOp pAddB (wSl pSl (wVar 5) wNoP (wPart (wVar 6))) (wC (.str "x"))) (wSl pSl (wVar 5) (wPart (wVar 6)) wNoP)) (wCons (wOp pAddB (wVar 5) (wC (.str " 1"))) (wCons (wRevS (wVar 5)) (wCons (wC (.str "")) (wCons (wC .none) (wCons (wOfL (wLst (wCons (wVar 5) wNil))) wNil)))))))))))) w_law_s1) E δ := rfl
def w_law_t1 : DTS := (wSeq (wSet 6 (mE (wCall [true, false] sp_Ldraw (wCons (wVar 1) (wCons (wOp pAddB (wFn pLen (wCons (wVar 5) wNil)) (wC (.int 1))) wNil))))) w_law_s2)
def w_law_t2 : DTS := (wSeq (wIf (wOr (wB (wOp pNe (wCall [] sp_Lread (wCons (wCall [] sp_kinds_text (wCons (wSl pSl (wVar 4) wNoP (wPart (wC (.int 1)))) wNil)) wNil)) (wOfL (wLst (wCons (wC (.str "kinds")) (wCons (wTup (wCons (wC .none) (wCons (wC (.str "pair")) wNil))) wNil)))))) (wB (wOp pNe (wCall [] sp_Lread (wCons (wCall [] sp_kinds_text (wCons (wOp pAddB (wVar 4) (wVar 4)) wNil)) wNil)) (wOfL (wLst (wCons (wC (.str "kinds")) (wCons (wTup (wCons (wC .none) (wCons (wC (.str "pair")) wNil))) wNil))))))) (wRet (wC (.bool false))) wNext) w_law_t1)
def w_law_s3 : DTS := (wSeq (wIf (wOr (wB (wOp pNe (wFn pReprN (wCons (wCall [] sp_Lread (wCons (wVar 5) wNil)) wNil)) (wFn pReprN (wCons (wOfL (wLst (wCons (wC (.str "ok")) (wCons (wVar 4) wNil)))) wNil)))) (wB (wOp pNe (wSelf [] "Bricks" sp_Bricks___str__ strD (wCons (nX (wCMeth "Bricks" sp_Bricks_read (wCons (wVar 5) wNil))) wNil)) (wVar 5)))) (wRet (wC (.bool false))) wNext) w_law_t2)
@[simp ↓] theorem w_law_s3_ap (E : DEnds) (δ : DS) : w_law_s3 E δ = (wSeq (wIf (wOr (wB (wOp pNe (wFn pReprN (wCons (wCall [] sp_Lread (wCons (wVar 5) wNil)) wNil)) (wFn pReprN (wCons (wOfL (wLst (wCons (wC (.str "ok")) (wCons (wVar 4) wNil)))) wNil)))) (wB (wOp pNe (wSelf [] "Bricks" sp_Bricks___str__ strD (wCons (nX (wCMeth "Bricks" sp_Bricks_read (wCons (wVar 5) wNil))) wNil)) (wVar 5)))) (wRet (wC (.bool false))) wNext) w_law_t2) E δ := rfl
def w_law_s4 : DTS := (wSeq (wSet 5 (mE (wCall [] sp_kinds_text (wCons (wVar 4) wNil)))) w_law_s3)
@[simp ↓] theorem w_law_s4_ap (E : DEnds) (δ : DS) : w_law_s4 E δ = (wSeq (wSet 5 (mE (wCall [] sp_kinds_text (wCons (wVar 4) wNil)))) w_law_s3) E δ := rfl
def w_law_s5 : DTS := (wSeq (wSet 4 (mE (wTup (wCons (wCall [true, false] sp_Lwide (wCons (wVar 1) (wCons (wVar 3) wNil))) (wCons (wCall [true, false] sp_Lwide (wCons (wVar 1) (wCons (wVar 3) wNil))) wNil))))) w_law_s4)
@[simp ↓] theorem w_law_s5_ap (E : DEnds) (δ : DS) : w_law_s5 E δ = (wSeq (wSet 4 (mE (wTup (wCons (wCall [true, false] sp_Lwide (wCons (wVar 1) (wCons (wVar 3) wNil))) (wCons (wCall [true, false] sp_Lwide (wCons (wVar 1) (wCons (wVar 3) wNil))) wNil))))) w_law_s4) E δ := rfl
def w_law_4 : DTS := (wSeq (wSet 3 (mE (wOp pAddB (wC (.int 1)) (wCall [true, false] sp_Ldraw (wCons (wVar 1) (wCons (wC (.int 4)) wNil)))))) w_law_s5)
def w_law_s6 : DTS := (wSeq (wFor (iRange1 (wCons (wC (.int 9)) wNil)) (gN 2) w_law_4) (wRet (wC (.bool true))))
@[simp ↓] theorem w_law_s6_ap (E : DEnds) (δ : DS) : w_law_s6 E δ = (wSeq (wFor (iRange1 (wCons (wC (.int 9)) wNil)) (gN 2) w_law_4) (wRet (wC (.bool true)))) E δ := rfl
def w_law : DTS := (wSeq (wSet 1 (wCallM [true] sp_Ldeck (wCons (wVar 0) wNil))) w_law_s6)
theorem ln_Bricks_read : ∀ cs R, sp_Bricks_read cs R → cs.length = 2 := by
  intro cs R h
  unfold sp_Bricks_read at h
  repeat (obtain ⟨_, h⟩ := h)
  subst_vars; rfl
theorem ln_Lread : ∀ cs R, sp_Lread cs R → cs.length = 1 := by
  intro cs R h
  unfold sp_Lread at h
  repeat (obtain ⟨_, h⟩ := h)
  subst_vars; rfl
theorem ln_Ldue_k76 : ∀ cs R, sp_Ldue_k76 cs R → cs.length = 1 := by
  intro cs R h
  unfold sp_Ldue_k76 at h
  repeat (obtain ⟨_, h⟩ := h)
  subst_vars; rfl
theorem ln_law : ∀ cs R, sp_law cs R → cs.length = 1 := by
  intro cs R h
  unfold sp_law at h
  repeat (obtain ⟨_, h⟩ := h)
  subst_vars; rfl
end K76
set_option Elab.async false
set_option linter.all false
set_option maxRecDepth 100000
set_option maxHeartbeats 4000000
namespace K76
open PySem PySem.Spec PyProof.Rows L2 DL TW
theorem ok_groupsT {gs : List (List Nat)} (h : kindsB gs true = true) (hn : gs ≠ []) : ∀ g ∈ gs, groupB (axesOf gs) g true = true := fun g hg => by
  simp only [kindsB, rowBT, Bool.and_eq_true, List.all_eq_true] at h
  obtain ⟨⟨_, h1⟩, h2⟩ := h
  rw [← List.dropLast_concat_getLast hn] at hg
  rcases List.mem_append.mp hg with q | q
  · exact h1 g q
  · simp only [List.mem_cons, List.not_mem_nil, or_false] at q
    rw [q]
    rwa [List.getLastD_eq_getLast?, List.getLast?_eq_some_getLast hn] at h2
theorem eq_axesT {gs : List (List Nat)} (h : kindsB gs true = true) : ∃ m, ∀ g ∈ gs, (TW.valG g).length = m := by
  match gs, h with
  | [], _ => exact ⟨0, fun g hg => by simp at hg⟩
  | [g], _ => exact ⟨_, fun g' hg => by
      obtain rfl : g' = g := by simpa using hg
      rfl⟩
  | g :: g2 :: gs, h =>
    refine ⟨(spl 120 g).length, fun x hx => ?_⟩
    have := ok_groupsT h (by simp) x hx
    simp only [axesOf, List.length_cons, gt_iff_lt, Nat.lt_add_left_iff_pos, Nat.zero_lt_succ, if_true, groupB, Bool.and_eq_true, fitA, List.headD_cons, Bool.not_true, Bool.false_or, decide_eq_true_eq] at this
    simpa [TW.valG] using this.2
theorem readK_eqT {L : List Nat} {kss : List (List Int)} (h : readK L = some kss) : ∃ m, ∀ ns ∈ kss, ns.length = m := by
  obtain ⟨h1, h2, _⟩ := readK_ok h
  obtain ⟨m, hm⟩ := eq_axesT h1
  refine ⟨m, fun ns hn => ?_⟩
  rw [← h2] at hn
  obtain ⟨g, hg, rfl⟩ := List.mem_map.mp hn
  exact hm g hg
theorem kindsE_okT {kss : List (List Int)} {m : Nat} (h1 : 1 ≤ kss.length) (h4 : kss.length ≤ 4) (hk : ∀ ns ∈ kss, ns.length = m ∧ 1 ≤ ns.length ∧ ns.length ≤ 4 ∧ In (10 ^ 12) ns) : kindsE (.tuple (kss.map tI)) = none := by
  have g : ∀ i, (hi : i < kss.length) → gd (kss.map tI) i = tI kss[i] := fun i hi => by simp [gd, hi]
  simp only [kindsE, List.length_map, h1, h4, and_self, if_true, Option.map_eq_none_iff, List.find?_eq_none, List.mem_range]
  intro i hi
  have a := hk _ (List.getElem_mem hi)
  have b := hk _ (List.getElem_mem (show 0 < kss.length by omega))
  show ¬ (((sidesE (gd (kss.map tI) i)).isSome || decide (TW.lenD (gd (kss.map tI) i) ≠ TW.lenD (gd (kss.map tI) 0))) = true)
  rw [g i hi, g 0 (by omega), sidesE_okB a.2.1 a.2.2.1 a.2.2.2, lenT_tIB, lenT_tIB, a.1, b.1]
  simp
theorem goodB_dg {n : Int} (h : 1 ≤ n ∧ n ≤ 10 ^ 12) : goodB (dg n.toNat) = true := by
  obtain ⟨c, r, e, hc⟩ := dg_head n.toNat (by omega)
  refine goodB_iff.mpr ⟨dg_all _, by rw [e]; simp; omega, by rw [dg_val]; omega⟩
theorem no_x_dg (n : Nat) : 120 ∉ dg n := fun h => by have := dg_all n 120 h; omega
theorem no_b_sx {ns : List Int} : 32 ∉ sx ns := fun h => by
  rcases glue_memB h with e | ⟨l, m, k⟩
  · omega
  · obtain ⟨n, _, rfl⟩ := List.mem_map.mp m
    have := dg_all n.toNat 32 k
    omega
theorem spl_sx {ns : List Int} (h : ns ≠ []) : spl 120 (sx ns) = ns.map fun n => dg n.toNat :=
  spl_glue (by simpa using h) fun w hw => by
    obtain ⟨n, _, rfl⟩ := List.mem_map.mp hw
    exact no_x_dg _
theorem valG_sx {ns : List Int} (h : ns ≠ []) (hn : In (10 ^ 12) ns) : TW.valG (sx ns) = ns := by
  rw [TW.valG, spl_sx h, List.map_map]
  conv => rhs; rw [← List.map_id ns]
  refine List.map_congr_left fun n hm => ?_
  have := (hn n hm).1
  simp [dg_val]
  omega
theorem groupB_sx {ns : List Int} {ax : Option Nat} (h1 : 1 ≤ ns.length) (h4 : ns.length ≤ 4) (hn : In (10 ^ 12) ns) (ha : ∀ a, ax = some a → a = ns.length) : groupB ax (sx ns) true = true := by
  have hne : ns ≠ [] := fun e => by subst e; simp at h1
  have hg : ∀ w ∈ ns.map (fun n => dg n.toNat), goodB w = true := fun w hw => by
    obtain ⟨n, hm, rfl⟩ := List.mem_map.mp hw
    exact goodB_dg (hn n hm)
  have hne2 : ns.map (fun n => dg n.toNat) ≠ [] := by simpa using hne
  have hl : ns.length ≤ limA ax := by
    cases ax with
    | none => exact h4
    | some a => obtain rfl := ha a rfl; simp [limA]; omega
  simp only [groupB, spl_sx hne, textB, List.length_map, Bool.and_eq_true, decide_eq_true_eq, List.all_eq_true, numB, Bool.or_eq_true]
  refine ⟨⟨⟨hl, fun w hw => hg w (List.dropLast_subset _ hw)⟩, .inl ?_⟩, ?_⟩
  · rw [List.getLastD_eq_getLast?, List.getLast?_eq_some_getLast hne2]
    exact hg _ (List.getLast_mem hne2)
  · cases ax with
    | none => rfl
    | some a => obtain rfl := ha a rfl; simp [fitA]
theorem readK_kx {kss : List (List Int)} {m : Nat} (h1 : 1 ≤ kss.length) (h4 : kss.length ≤ 4) (hk : ∀ ns ∈ kss, ns.length = m ∧ 1 ≤ ns.length ∧ ns.length ≤ 4 ∧ In (10 ^ 12) ns) : readK (kx kss) = some kss := by
  have hne : kss.map sx ≠ [] := fun e => by
    have e1 : kss = [] := by simpa using e
    rw [e1] at h1
    simp at h1
  have hs : spl 32 (kx kss) = kss.map sx := spl_glue hne fun w hw => by
    obtain ⟨n, _, rfl⟩ := List.mem_map.mp hw
    exact no_b_sx
  have hax : ∀ a, axesOf (kss.map sx) = some a → a = m := fun a e => by
    cases kss with
    | nil => simp at h1
    | cons k ks =>
      have hk0 := hk k (List.mem_cons_self ..)
      have : k ≠ [] := fun e => by rw [e] at hk0; simp at hk0
      simp only [axesOf, List.map_cons, List.headD_cons, spl_sx this, List.length_map] at e
      split at e
      · injection e with e; rw [← e]; exact hk0.1
      · cases e
  have hg : ∀ g ∈ kss.map sx, groupB (axesOf (kss.map sx)) g true = true := fun g hg => by
    obtain ⟨ns, hn, rfl⟩ := List.mem_map.mp hg
    obtain ⟨a, b, c, d⟩ := hk ns hn
    exact groupB_sx b c d fun x e => by rw [a]; exact hax x e
  have hB : kindsB (spl 32 (kx kss)) true = true := by
    rw [hs]
    simp only [kindsB, rowBT, Bool.and_eq_true, List.all_eq_true, decide_eq_true_eq, List.length_map]
    refine ⟨⟨h4, fun w hw => hg w (List.dropLast_subset _ hw)⟩, ?_⟩
    rw [List.getLastD_eq_getLast?, List.getLast?_eq_some_getLast hne]
    exact hg _ (List.getLast_mem hne)
  cases e : readK (kx kss) with
  | none =>
    have := (readK_bad e).1
    rw [hB] at this
    cases this
  | some kss' =>
    obtain ⟨_, h2, _⟩ := readK_ok e
    rw [hs, List.map_map] at h2
    rw [← h2]
    congr 1
    conv => rhs; rw [← List.map_id kss]
    refine List.map_congr_left fun ns hn => ?_
    obtain ⟨a, b, c, d⟩ := hk ns hn
    exact valG_sx (fun e => by rw [e] at b; simp at b) d
theorem readK_shapeT {L : List Nat} {kss : List (List Int)} (h : readK L = some kss) : ∃ m, 1 ≤ kss.length ∧ kss.length ≤ 4 ∧ ∀ ns ∈ kss, ns.length = m ∧ 1 ≤ ns.length ∧ ns.length ≤ 4 ∧ In (10 ^ 12) ns := by
  obtain ⟨m, hm⟩ := readK_eqT h
  obtain ⟨_, _, h3, h4, h5⟩ := readK_ok h
  exact ⟨m, h3, h4, fun ns hn => ⟨hm ns hn, (h5 ns hn).1, (h5 ns hn).2.1, (h5 ns hn).2.2⟩⟩
theorem pairE_kssT {kss : List (List Int)} {m : Nat} (h1 : 1 ≤ kss.length) (h4 : kss.length ≤ 4) (hk : ∀ ns ∈ kss, ns.length = m ∧ 1 ≤ ns.length ∧ ns.length ≤ 4 ∧ In (10 ^ 12) ns) (h2 : kss.length ≠ 2) : pairE (.tuple (kss.map tI)) = some (PyData.none, ("pair" : Str)) := by
  unfold pairE
  rw [kindsE_okT h1 h4 hk]
  simp [TW.lenD, h2]
theorem tI_injT {a b : List Int} (h : tI a = tI b) : a = b := by
  injection h with h
  exact DL.map_int_inj h
theorem rd_Bricks_read : ∀ cs R, sp_Bricks_read cs R → w_Bricks_read (endsOf cs R) (start0 4 cs) := by
  rintro _ R ⟨C, v, rfl, hv, h1, h2⟩
  simp -implicitDefEqProofs -dsimp [w_Bricks_read]
  refine ask_of (sp := sp_parse_kindsX) ⟨v, rfl, hv, ?_⟩
  unfold parseKD
  cases v with
  | str z =>
    obtain ⟨h2, h3⟩ := h2 z rfl
    simp only
    cases hr : readK z.cps.toList with
    | none =>
      have := h2 hr
      unfold badD at this ⊢
      (try simp -implicitDefEqProofs -dsimp)
      exact this
    | some kss =>
      obtain ⟨h4, h5⟩ := h3 kss hr
      obtain ⟨m, l1, l4, hk⟩ := readK_shapeT hr
      (try simp -implicitDefEqProofs -dsimp)
      refine ask_of (sp := sp_pair_error) ⟨_, rfl, ?_⟩
      by_cases hl : kss.length = 2
      · match kss, hl, hk, h5 with
        | [a, b], _, hk, h5 =>
          obtain ⟨a1, a2, a3, a4⟩ := hk a (by simp)
          obtain ⟨b1, b2, b3, b4⟩ := hk b (by simp)
          have bk : Bk a b := ⟨a2, a3, by omega, a4, b4⟩
          have e0 : PyData.tuple (List.map tI [a, b]) = TW.prD a b := rfl
          rw [e0, pairE_okB bk]
          have g0 : gd [tI a, tI b] 0 = tI a := rfl
          have g1 : gd [tI a, tI b] 1 = tI b := rfl
          simp -implicitDefEqProofs -dsimp [encE, TW.prD, g0, g1]
          simp -implicitDefEqProofs -dsimp [w_Bricks_read_t1, g0, g1]
          intro s
          refine ask_of (sp := sp_Bricks_init) ⟨s, tI a, tI b, rfl, fun e he => ?_, fun p q hp hq hb => ?_⟩
          · have he : pairE (TW.prD a b) = some e := he
            rw [pairE_okB bk] at he
            cases he
          · have hp := tI_injT hp
            have hq := tI_injT hq
            subst hp hq
            (try simp -implicitDefEqProofs -dsimp)
            exact h5 a b rfl hb
      · rw [pairE_kssT l1 l4 hk hl]
        simp -implicitDefEqProofs -dsimp [encE, w_Bricks_read_1]
        exact h4 hl
  | _ =>
    have := h1 (fun z e => by cases e)
    unfold badD at this ⊢
    (try simp -implicitDefEqProofs -dsimp)
    exact this
theorem rd_Lread : ∀ cs R, sp_Lread cs R → w_Lread (endsOf cs R) (start0 3 cs) := by
  rintro _ R ⟨v, rfl, hv, hR⟩
  simp -implicitDefEqProofs -dsimp [w_Lread, w_Lread_1]
  intro C
  refine ask_of (sp := sp_Bricks_read) ⟨C, v, rfl, hv, fun h => ?_, fun z hz => ⟨fun h => ?_, fun kss h => ⟨fun h2 => ?_, fun a b h2 hb => ?_⟩⟩⟩
  · have : readD2 v = .list [.str "text", .none] := by
      cases v with
      | str z => exact absurd rfl (h z)
      | _ => rfl
    rw [this] at hR
    unfold badD
    simp -implicitDefEqProofs -dsimp [pickX, doX]
    exact hR
  · subst hz
    simp only [readD2, h] at hR
    unfold badD
    simp -implicitDefEqProofs -dsimp [pickX, doX]
    exact hR
  · subst hz
    simp only [readD2, h, if_neg h2, kindD] at hR
    simp -implicitDefEqProofs -dsimp [pickX, doX]
    exact hR
  · subst hz h2
    simp only [readD2, h, List.length_cons, List.length_nil, if_true, List.map_cons, List.map_nil] at hR
    simp -implicitDefEqProofs -dsimp [brD]
    refine ask_of (sp := sp_Bricks_pair) ⟨a, b, rfl, ?_⟩
    (try simp -implicitDefEqProofs -dsimp)
    exact hR
theorem rd_Ldue_k76 : ∀ cs R, sp_Ldue_k76 cs R → w_Ldue_k76 (endsOf cs R) (start0 4 cs) := by
  rintro _ R ⟨v, rfl, hv, hR⟩
  simp -implicitDefEqProofs -dsimp [w_Ldue_k76, w_Ldue_k76_1]
  refine ask_of (sp := sp_parse_kindsX) ⟨v, rfl, hv, ?_⟩
  unfold readD2 at hR
  unfold parseKD
  cases v with
  | str z =>
    simp only at hR ⊢
    cases hr : readK z.cps.toList with
    | some ns =>
      rw [hr] at hR
      (try simp -implicitDefEqProofs -dsimp)
      by_cases h2 : ns.length = 2
      · rw [if_pos (by omega)]
        simpa only [if_pos h2] using hR
      · rw [if_neg (by omega)]
        simpa only [if_neg h2, kindD] using hR
    | none =>
      rw [hr] at hR
      simp -implicitDefEqProofs -dsimp [badD]
      exact hR
  | _ =>
    simp -implicitDefEqProofs -dsimp [badD]
    exact hR
theorem readD2_tS (L : List Nat) : readD2 (tS L) = match readK L with | some kss => (if kss.length = 2 then .list [.str "ok", .tuple (kss.map tI)] else kindD) | none => .list [.str "text", posD (badKT L)] := by
  have e : (⟨L.toArray⟩ : Str).cps.toList = L := by simp
  show (match readK (⟨L.toArray⟩ : Str).cps.toList with | some kss => (if kss.length = 2 then PyData.list [.str "ok", .tuple (kss.map tI)] else kindD) | none => PyData.list [.str "text", posD (badKT (⟨L.toArray⟩ : Str).cps.toList)]) = _
  rw [e]
theorem readD2_shp (v : PyData) (h : ∀ z, v = .str z → z.length ≤ 100000) : Shp true 3 3000 (readD2 v) := by
  have s1 : ∀ {t : String} {x : PyData}, t.length ≤ 8 → Shp true 2 1000 x → Shp true 3 3000 (.list [.str (Str.ofString t), x]) := fun ht hx => (Shp.list (n := 2) (ShpL.cons (Shp.ofStr (k := 8) ht) (ShpL.cons hx ShpL.nil))).mono (by decide) (by decide)
  have kd : Shp true 3 3000 kindD := s1 (t := "kinds") (by decide) ((Shp.tuple (n := 1) (ShpL.cons Shp.none (ShpL.cons (Shp.ofStr (n := 1) (k := 8) (s := "pair") (by decide)) ShpL.nil))).mono (by decide) (by decide))
  unfold readD2
  cases v with
  | str z =>
    have hz := h z rfl
    have el : z.cps.toList.length = z.length := by simp [Str.length]
    simp only
    cases e : readK z.cps.toList with
    | some kss =>
      simp only
      split
      · obtain ⟨m, h1, h4, hk⟩ := readK_shapeT e
        exact s1 (t := "ok") (by decide) ((Shp.tuple (n := 1) (ShpL.map (k := 4) (fun ns hm => (shp_numB (hk ns hm).2.2.1 (hk ns hm).2.2.2).up) h4)).mono (by decide) (by decide))
      · exact kd
    | none =>
      refine s1 (t := "text") (by decide) ?_
      have : badKT z.cps.toList ≤ 100000 := by unfold badKT; omega
      exact (Shp.int64 (n := 1) (by omega) (by omega)).mono (by decide) (by decide)
  | _ => exact s1 (t := "text") (by decide) ((Shp.none (n := 1)).mono (by decide) (by decide))
section
variable {E : DEnds} {c0 c2 c3 c6 c7 c8 : Cell} {a1 a2 a3 : Addr} {p q : List Int}
theorem lenS_odd : ∀ x ∈ oddL, ∀ y, x = .str y → y.length ≤ 10 := by
  have h : (oddL.all fun x => match x with | .str y => decide (y.length ≤ 10) | _ => true) = true := by decide +kernel
  intro x hx y e
  have := List.all_eq_true.mp h x hx
  subst e
  simpa using this
theorem sOk_kx (hb : Bk p q) : ZOk 300 (⟨(kx [p, q]).toArray⟩ : Str) := (⟨hb.kok.len, fun c hc => by have := kx_leB c hc; omega⟩ : SOk 300 (kx [p, q]))
theorem rd_law_t1 (hb : Bk p q) (k : ∀ c6 c7 c8, E.nx [c0, .dk a1 a2 a3, c2, c3, .d (TW.prD p q), .d (tS (kx [p, q])), c6, c7, c8]) : w_law_t1 E [c0, .dk a1 a2 a3, c2, c3, .d (TW.prD p q), .d (tS (kx [p, q])), c6, c7, c8] := by
  have kl := hb.kok.len
  simp -implicitDefEqProofs -dsimp [w_law_t1, tS, len_S]
  refine ⟨by omega, ask_draw (by omega) (by omega) fun i h0 h1 => ?_⟩
  (try simp -implicitDefEqProofs -dsimp)
  have el : (⟨(kx [p, q]).toArray⟩ : Str).length ≤ 300 := by rw [len_S]; exact kl
  have zx : ZOk 300 (⟨(kx [p, q]).toArray⟩ : Str) := sOk_kx hb
  have et : tS (kx [p, q]) = .str ⟨(kx [p, q]).toArray⟩ := rfl
  have k : ∀ c6 c7 c8, E.nx [c0, .dk a1 a2 a3, c2, c3, .d (TW.prD p q), .d (.str ⟨(kx [p, q]).toArray⟩), c6, c7, c8] := k
  rw [et]
  clear et
  generalize hz : (⟨(kx [p, q]).toArray⟩ : Str) = z at *
  have s1 : ("x" : Str).length = 1 := by decide +kernel
  have s2 : (" " : Str).length = 1 := by decide +kernel
  have s3 : (" 1" : Str).length = 2 := by decide +kernel
  have x1 : ZOk 1 ("x" : Str) := sOk_of (by decide +kernel)
  have x2 : ZOk 1 (" " : Str) := sOk_of (by decide +kernel)
  have x3 : ZOk 2 (" 1" : Str) := sOk_of (by decide +kernel)
  have ca := zx.cut none (some i)
  have cb := zx.cut (some i) none
  have l1 := ca.len
  have l2 := cb.len
  have l3 := (ca.app x2).len
  have l4 := (ca.app x1).len
  have l5 := ((ca.app x2).app cb).len
  have l6 := ((ca.app x1).app cb).len
  have l7 := (zx.app x3).len
  have l8 := revS_len z
  (try simp -implicitDefEqProofs -dsimp)
  refine ⟨by omega, by omega, by omega, by omega, by omega, by omega, by omega, by omega, by omega, by omega, ?_⟩
  (try simp -implicitDefEqProofs -dsimp)
  refine ask_of (sp := sp_Lodd) ⟨_, _, _, rfl, fun o ho => ?_⟩
  have vs : ∀ {y : Str}, y.length ≤ 100000 → okS (.str y) := fun h y' e => by cases e; exact h
  have vn : ∀ {x : PyData}, (∀ y, x ≠ .str y) → okS x := fun h y e => absurd e (h y)
  have vo : okS o := fun y e => by
    have := lenS_odd o ho y e
    omega
  (try simp -implicitDefEqProofs -dsimp)
  refine for_stay (fun δ => ∃ c8, δ = [c0, .dk a1 a2 a3, c2, c3, .d (TW.prD p q), .d (.str z), .d (.int i), .d (.list [.str (cutS z none (some i)), .str (cutS z none (some i) ++ Str.ofString " " ++ cutS z (some i) none), .str (cutS z none (some i) ++ Str.ofString "x" ++ cutS z (some i) none), .str (z ++ Str.ofString " 1"), .str (revS z), .str (Str.ofString ""), .none, .list [.str z]]), c8]) ⟨_, rfl⟩ ?_ ?_
  · rintro δ ⟨c8, rfl⟩
    exact k _ _ _
  · rintro v hv δ ⟨c8, rfl⟩ K B T hK
    have ov : okS v := by
      simp only [List.mem_cons, List.not_mem_nil, or_false] at hv
      rcases hv with rfl | rfl | rfl | rfl | rfl | rfl | rfl | rfl | rfl
      · exact vs (by omega)
      · exact vs (by omega)
      · exact vs (by omega)
      · exact vs (by omega)
      · exact vs (by omega)
      · exact vs (by decide +kernel)
      · exact vn (fun y e => by cases e)
      · exact vn (fun y e => by cases e)
      · exact vo
    have sh := readD2_shp v ov
    simp -implicitDefEqProofs -dsimp [w_law_1]
    refine ask_of (sp := sp_Lread) ⟨v, rfl, ov, ?_⟩
    (try simp -implicitDefEqProofs -dsimp)
    refine sh.repr ?_
    (try simp -implicitDefEqProofs -dsimp)
    refine ask_of (sp := sp_Ldue_k76) ⟨v, rfl, ov, ?_⟩
    (try simp -implicitDefEqProofs -dsimp)
    refine sh.repr ?_
    (try simp -implicitDefEqProofs -dsimp)
    exact hK _ ⟨_, rfl⟩
theorem rd_law_4 (k : ∀ c3 c4 c5 c6 c7 c8, E.nx [c0, .dk a1 a2 a3, c2, c3, c4, c5, c6, c7, c8]) {c4 c5 : Cell} : w_law_4 E [c0, .dk a1 a2 a3, c2, c3, c4, c5, c6, c7, c8] := by
  simp -implicitDefEqProofs -dsimp [w_law_4]
  refine ask_draw (by decide) (by decide) (fun i h0 h1 => ?_)
  (try simp -implicitDefEqProofs -dsimp)
  refine ask_of (sp := sp_Lwide) ⟨_, _, _, _, rfl, by omega, by omega, fun p lp ip => ?_⟩
  (try simp -implicitDefEqProofs -dsimp)
  refine ask_of (sp := sp_Lwide) ⟨_, _, _, _, rfl, by omega, by omega, fun q lq iq => ?_⟩
  have hb : Bk p q := ⟨by omega, by omega, by omega, ip, iq⟩
  have e0 : PyData.tuple [tI p, tI q] = TW.prD p q := rfl
  have ok2 : ∀ ns ∈ [p, q], ns.length = (1 + i).toNat ∧ 1 ≤ ns.length ∧ ns.length ≤ 4 ∧ In (10 ^ 12) ns := fun ns hn => by
    simp only [List.mem_cons, List.not_mem_nil, or_false] at hn
    rcases hn with rfl | rfl
    · exact ⟨lp, hb.l1, hb.l4, ip⟩
    · exact ⟨lq, by have := hb.lb; have := hb.l1; omega, by have := hb.lb; have := hb.l4; omega, iq⟩
  have ok1 : ∀ ns ∈ [p], ns.length = (1 + i).toNat ∧ 1 ≤ ns.length ∧ ns.length ≤ 4 ∧ In (10 ^ 12) ns := fun ns hn => ok2 ns (by simp at hn; simp [hn])
  have ok4 : ∀ ns ∈ [p, q, p, q], ns.length = (1 + i).toNat ∧ 1 ≤ ns.length ∧ ns.length ≤ 4 ∧ In (10 ^ 12) ns := fun ns hn => ok2 ns (by simp at hn ⊢; rcases hn with h | h | h | h <;> simp [h])
  have num : ∀ {l : List (List Int)}, (∀ ns ∈ l, ns.length = (1 + i).toNat ∧ 1 ≤ ns.length ∧ ns.length ≤ 4 ∧ In (10 ^ 12) ns) → ∀ ns ∈ l, ns.length ≤ 8 ∧ ∀ n ∈ ns, NumOk n := fun h ns hn => ⟨by have := (h ns hn).2.2.1; omega, fun n hm => (h ns hn).2.2.2 n hm⟩
  have kl := hb.kok.len
  (try simp -implicitDefEqProofs -dsimp)
  have txt : ∀ {L : List Nat}, L.length ≤ 100000 → okS (tS L) := fun hl z e => by
    have e : PyData.str _ = PyData.str z := e
    injection e with e
    rw [← e, len_S]; exact hl
  have r2 : readD2 (tS (kx [p, q])) = .list [.str "ok", TW.prD p q] := by rw [readD2_tS, readK_kx (by simp) (by simp) ok2]; rfl
  have r1 : readD2 (tS (kx [p])) = kindD := by rw [readD2_tS, readK_kx (by simp) (by simp) ok1]; rfl
  have r4 : readD2 (tS (kx [p, q, p, q])) = kindD := by rw [readD2_tS, readK_kx (by simp) (by simp) ok4]; rfl
  refine ask_of (sp := sp_kinds_text) ⟨[p, q], rfl, by simp, num ok2, ?_⟩
  (try simp -implicitDefEqProofs -dsimp)
  refine ask_of (sp := sp_Lread) ⟨_, rfl, txt (by omega), ?_⟩
  rw [r2]
  have sh := readD2_shp (tS (kx [p, q])) fun z e => by
    have e : PyData.str _ = PyData.str z := e
    injection e with e
    rw [← e, len_S]; omega
  rw [r2] at sh
  (try simp -implicitDefEqProofs -dsimp)
  refine sh.repr ?_
  simp -implicitDefEqProofs -dsimp [e0]
  refine sh.repr ?_
  (try simp -implicitDefEqProofs -dsimp)
  intro C
  refine ask_of (sp := sp_Bricks_read) ⟨C, _, rfl, txt (by omega), fun h => absurd rfl (h _), fun z hz => ⟨fun h => ?_, fun kss h => ?_⟩⟩
  · exfalso
    have hz : (⟨(kx [p, q]).toArray⟩ : Str) = z := by injection hz
    rw [← hz] at h
    have h : readK (kx [p, q]) = none := by simpa using h
    rw [readK_kx (by simp) (by simp) ok2] at h
    cases h
  · have hz : (⟨(kx [p, q]).toArray⟩ : Str) = z := by injection hz
    rw [← hz] at h
    have h : readK (kx [p, q]) = some kss := by simpa using h
    rw [readK_kx (by simp) (by simp) ok2] at h
    obtain rfl : [p, q] = kss := by injection h
    refine ⟨fun h => absurd rfl h, fun a b hab hb' => ?_⟩
    obtain ⟨rfl, rfl⟩ : p = a ∧ q = b := by simpa using hab
    simp -implicitDefEqProofs -dsimp [brD]
    refine ask_of (sp := sp_Bricks___str__) ⟨p, q, rfl, hb, ?_⟩
    have et : tS (kx [p, q]) = .str ⟨(kx [p, q]).toArray⟩ := rfl
    rw [et]
    (try simp -implicitDefEqProofs -dsimp)
    rw [← et]
    simp -implicitDefEqProofs -dsimp [w_law_t2]
    have c1 : DL.cutD [tI p, tI q] none (some 1) = [tI p] := by
      have := cutD_take [tI p, tI q] 1
      simpa using this
    rw [c1]
    refine ask_of (sp := sp_kinds_text) ⟨[p], rfl, by simp, num ok1, ?_⟩
    have k1 : (kx [p]).length ≤ 300 := by
      have : KOkB [p] := hb.kok.one
      exact this.len
    (try simp -implicitDefEqProofs -dsimp)
    refine ask_of (sp := sp_Lread) ⟨_, rfl, txt (by omega), ?_⟩
    rw [r1]
    have kd : PyData.list [.str (Str.ofString "kinds"), .tuple [.none, .str (Str.ofString "pair")]] = kindD := rfl
    have ks : Shp false 3 3000 kindD := ((Shp.list (n := 2) (ShpL.cons (Shp.ofStr (k := 8) (s := "kinds") (by decide)) (ShpL.cons (Shp.tuple (n := 1) (ShpL.cons Shp.none (ShpL.cons (Shp.ofStr (n := 1) (k := 8) (s := "pair") (by decide)) ShpL.nil))) ShpL.nil)))).mono (by decide) (by decide)
    have k0 := ks.shaped
    unfold kindD at k0
    have k2 : PyData.eqvAll [PyData.str (Str.ofString "kinds"), PyData.tuple [PyData.none, PyData.str (Str.ofString "pair")]] [PyData.str (Str.ofString "kinds"), PyData.tuple [PyData.none, PyData.str (Str.ofString "pair")]] = true := eqv_refl' ks
    simp -implicitDefEqProofs -dsimp [kindD]
    refine ⟨k0, ?_⟩
    rw [if_pos k2]
    refine ask_of (sp := sp_kinds_text) ⟨[p, q, p, q], rfl, by simp, num ok4, ?_⟩
    have k4 : (kx [p, q, p, q]).length ≤ 300 := by
      obtain ⟨m, m0, m4, _, _, hh⟩ := hb.kok
      have : KOkB [p, q, p, q] := ⟨m, m0, m4, by simp, by simp, fun ns hn => hh ns (by simp at hn ⊢; rcases hn with h | h | h | h <;> simp [h])⟩
      exact this.len
    (try simp -implicitDefEqProofs -dsimp)
    refine ask_of (sp := sp_Lread) ⟨_, rfl, txt (by omega), ?_⟩
    rw [r4]
    simp -implicitDefEqProofs -dsimp [kindD]
    refine ⟨k0, ?_⟩
    rw [if_pos k2]
    exact rd_law_t1 hb fun _ _ _ => k _ _ _ _ _ _
end
theorem rd_law : ∀ cs R, sp_law cs R → w_law (endsOf cs R) (start0 9 cs) := by
  rintro _ R ⟨a, ns, rfl, hR⟩
  simp -implicitDefEqProofs -dsimp [w_law]
  refine ask_deck fun a1 a2 a3 => ?_
  (try simp -implicitDefEqProofs -dsimp)
  refine for_stay (fun δ => ∃ c2 c3 c4 c5 c6 c7 c8, δ = [.scr a ns, .dk a1 a2 a3, c2, c3, c4, c5, c6, c7, c8]) ⟨_, _, _, _, _, _, _, rfl⟩ ?_ ?_
  · rintro δ ⟨c2, c3, c4, c5, c6, c7, c8, rfl⟩
    (try simp -implicitDefEqProofs -dsimp)
    exact hR _
  · rintro x hx δ ⟨c2, c3, c4, c5, c6, c7, c8, rfl⟩ K B T hK
    (try simp -implicitDefEqProofs -dsimp)
    exact rd_law_4 fun c3 c4 c5 c6 c7 c8 => hK _ ⟨_, _, _, _, _, _, _, rfl⟩
end K76
set_option Elab.async false
set_option linter.all false
set_option maxRecDepth 100000
set_option maxHeartbeats 4000000
namespace K76
open PySem PySem.Spec PyProof.Rows L2 DL TW
variable [DL.Tb]
theorem sc_sides_text : FnScope ["sides", "side"] ["sides"] (defScope s_sides_text) := ⟨rfl, rfl, rfl, by decide +kernel, rfl, by decide +kernel, by decide +kernel⟩
theorem sc_kinds_text : FnScope ["kinds", "sides"] ["kinds"] (defScope s_kinds_text) := ⟨rfl, rfl, rfl, by decide +kernel, rfl, by decide +kernel, by decide +kernel⟩
theorem sc_is_integer : FnScope ["value", "low", "high"] ["value", "low", "high"] (defScope s_is_integer) := ⟨rfl, rfl, rfl, by decide +kernel, rfl, by decide +kernel, by decide +kernel⟩
theorem sc_sides_error : FnScope ["value", "axis", "side"] ["value"] (defScope s_sides_error) := ⟨rfl, rfl, rfl, by decide +kernel, rfl, by decide +kernel, by decide +kernel⟩
theorem sc_kinds_error : FnScope ["value", "kind", "sides"] ["value"] (defScope s_kinds_error) := ⟨rfl, rfl, rfl, by decide +kernel, rfl, by decide +kernel, by decide +kernel⟩
theorem sc_pair_error : FnScope ["value", "error"] ["value"] (defScope s_pair_error) := ⟨rfl, rfl, rfl, by decide +kernel, rfl, by decide +kernel, by decide +kernel⟩
theorem sc_rests : FnScope ["brick", "box", "axis", "side"] ["brick", "box"] (defScope s_rests) := ⟨rfl, rfl, rfl, by decide +kernel, rfl, by decide +kernel, by decide +kernel⟩
theorem sc_atoms : FnScope ["pair", "first", "second", "brick", "mate"] ["pair"] (defScope s_atoms) := ⟨rfl, rfl, rfl, by decide +kernel, rfl, by decide +kernel, by decide +kernel⟩
theorem sc_Bricks_init : FnScope ["self", "one", "other", "error"] ["self", "one", "other"] (defScope s_Bricks_init) := ⟨rfl, rfl, rfl, by decide +kernel, rfl, by decide +kernel, by decide +kernel⟩
theorem sc_number_at : FnScope ["text", "at", "number"] ["text", "at"] (defScope s_number_at) := ⟨rfl, rfl, rfl, by decide +kernel, rfl, by decide +kernel, by decide +kernel⟩
theorem sc_sides_at : FnScope ["text", "at", "most", "number", "found"] ["text", "at", "most"] (defScope s_sides_at) := ⟨rfl, rfl, rfl, by decide +kernel, rfl, by decide +kernel, by decide +kernel⟩
theorem sc_require_text : FnScope ["value"] ["value"] (defScope s_require_text) := ⟨rfl, rfl, rfl, by decide +kernel, rfl, by decide +kernel, by decide +kernel⟩
theorem sc_parse_kinds : FnScope ["value", "first", "at", "found", "sides"] ["value"] (defScope s_parse_kinds) := ⟨rfl, rfl, rfl, by decide +kernel, rfl, by decide +kernel, by decide +kernel⟩
theorem sc_Bricks_read : FnScope ["cls", "value", "kinds", "error"] ["cls", "value"] (defScope s_Bricks_read) := ⟨rfl, rfl, rfl, by decide +kernel, rfl, by decide +kernel, by decide +kernel⟩
theorem sc_Bricks___str__ : FnScope ["self"] ["self"] (defScope s_Bricks___str__) := ⟨rfl, rfl, rfl, by decide +kernel, rfl, by decide +kernel, by decide +kernel⟩
theorem sc_Ldeck : FnScope ["_law_script", "_law_cells", "_law_cell"] ["_law_script"] (defScope s_Ldeck) := ⟨rfl, rfl, rfl, by decide +kernel, rfl, by decide +kernel, by decide +kernel⟩
theorem sc_Ldraw : FnScope ["_law_deck_here", "_law_many", "_law_rest", "_law_cell", "_law_mixed"] ["_law_deck_here", "_law_many"] (defScope s_Ldraw) := ⟨rfl, rfl, rfl, by decide +kernel, rfl, by decide +kernel, by decide +kernel⟩
theorem sc_Lone : FnScope ["_law_deck_here", "_law_items"] ["_law_deck_here", "_law_items"] (defScope s_Lone) := ⟨rfl, rfl, rfl, by decide +kernel, rfl, by decide +kernel, by decide +kernel⟩
theorem sc_Lodd : FnScope ["_law_deck_here", "_law_some"] ["_law_deck_here"] (defScope s_Lodd) := ⟨rfl, rfl, rfl, by decide +kernel, rfl, by decide +kernel, by decide +kernel⟩
theorem sc_Lfar : FnScope ["_law_deck_here"] ["_law_deck_here"] (defScope s_Lfar) := ⟨rfl, rfl, rfl, by decide +kernel, rfl, by decide +kernel, by decide +kernel⟩
theorem sc_Lwide : FnScope ["_law_deck_here", "_law_axes", "_law_axis"] ["_law_deck_here", "_law_axes"] (defScope s_Lwide) := ⟨rfl, rfl, rfl, by decide +kernel, rfl, by decide +kernel, by decide +kernel⟩
theorem sc_Bricks_pair : FnScope ["self"] ["self"] (defScope s_Bricks_pair) := ⟨rfl, rfl, rfl, by decide +kernel, rfl, by decide +kernel, by decide +kernel⟩
theorem sc_Lread : FnScope ["_law_value", "_law_found", "error"] ["_law_value"] (defScope s_Lread) := ⟨rfl, rfl, rfl, by decide +kernel, rfl, by decide +kernel, by decide +kernel⟩
theorem sc_Ldue : FnScope ["_law_value", "_law_kinds", "_law_found", "error"] ["_law_value"] (defScope s_Ldue) := ⟨rfl, rfl, rfl, by decide +kernel, rfl, by decide +kernel, by decide +kernel⟩
theorem sc_law : FnScope ["_law_script", "_law_deck_here", "_law_turn", "_law_axes", "_law_pair", "_law_text", "_law_at", "_law_some", "_law_value"] ["_law_script"] (defScope s_law) := ⟨rfl, rfl, rfl, by decide +kernel, rfl, by decide +kernel, by decide +kernel⟩
variable {P : Program} {w : World} {K : W.Frag} {mg : Str → Option Value} {base : Heap}
structure Gkb (K : W.Frag) (mg : Str → Option Value) (n : Str) (f : Addr) (fd : FuncData) (ps : List Str) : Prop where
  g : mg n = some (.ref f)
  k : W.keepIn K (.ref f) = true
  b : Binds K fd ps []
set_option maxHeartbeats 0 in
theorem ok_sides_text {f : Addr} {fd : FuncData} (F : Fun K "sides_text" "sides_text" s_sides_text f fd) (z_str : mg "str" = none) : FnG P w K mg base CX0 1 f fd ["sides"] (liftSp K sp_sides_text) := by
  have nd := sc_sides_text.nd
  refine okD (wb := w_sides_text) F sc_sides_text ln_sides_text (fun cdv A outer s H E hr => ?_) rd_sides_text
  exact (jss_one (js_ret (je_joinC (je_ofL (jl_comp (own := [("side", 1)]) rfl nd (ji_seq (jv 0)) (blkOk_by (by kernel_rfl)) (by decide) (fun _ _ _ _ _ => (jgn 1 nd)) (fun _ _ _ _ _ => jts_nil) (fun _ _ _ _ _ => (je_ty c_strB rfl z_str boot_str (ja_cons (jv 1) ja_nil))))))))
set_option maxHeartbeats 0 in
theorem ok_kinds_text {f : Addr} {fd : FuncData} (F : Fun K "kinds_text" "kinds_text" s_kinds_text f fd) {f_sides_text : Addr} {fd_sides_text : FuncData} (F_sides_text : FnG P w K mg base CX0 1 f_sides_text fd_sides_text ["sides"] (liftSp K sp_sides_text)) (q_sides_text : Gkb K mg "sides_text" f_sides_text fd_sides_text ["sides"]) : FnG P w K mg base CX0 2 f fd ["kinds"] (liftSp K sp_kinds_text) := by
  have nd := sc_kinds_text.nd
  replace F_sides_text := F_sides_text.mono (show 1 ≤ 1 by decide)
  refine okD (wb := w_kinds_text) F sc_kinds_text ln_kinds_text (fun cdv A outer s H E hr => ?_) rd_kinds_text
  exact (jss_one (js_ret (je_joinC (je_ofL (jl_comp (own := [("sides", 1)]) rfl nd (ji_seq (jv 0)) (blkOk_by (by kernel_rfl)) (by decide) (fun _ _ _ _ _ => (jgn 1 nd)) (fun _ _ _ _ _ => jts_nil) (fun _ _ _ _ _ => (je_call (m := []) F_sides_text hr rfl q_sides_text.g q_sides_text.k q_sides_text.b (ja_cons (jv 1) ja_nil))))))))
set_option maxHeartbeats 0 in
theorem ok_is_integer {f : Addr} {fd : FuncData} (F : Fun K "is_integer" "is_integer" s_is_integer f fd) (z_isinstance : mg "isinstance" = none) (z_bool : mg "bool" = none) (z_int : mg "int" = none) : FnG P w K mg base CX0 1 f fd ["value", "low", "high"] (liftSp K sp_is_integer) := by
  have nd := sc_is_integer.nd
  refine okD (wb := w_is_integer) F sc_is_integer ln_is_integer (fun cdv A outer s H E hr => ?_) rd_is_integer
  exact (jss_one (js_ret (je_and (je_isi (T := "int") (by simp) rfl z_isinstance boot_isinstance rfl z_int boot_int (jv 0)) (je_and (je_not (je_isi (T := "bool") (by simp) rfl z_isinstance boot_isinstance rfl z_bool boot_bool (jv 0))) (je_one (je_chain d_le d_le (jv 1) (jv 0) (jv 2)))))))
set_option maxHeartbeats 0 in
theorem ok_sides_error {f : Addr} {fd : FuncData} (F : Fun K "sides_error" "sides_error" s_sides_error f fd) (z_enumerate : mg "enumerate" = none) (z_len : mg "len" = none) (z_isinstance : mg "isinstance" = none) (z_tuple : mg "tuple" = none) {t_MAX_SIDE : Tok} (c_MAX_SIDE : mg "MAX_SIDE" = some (.int 1000000000000 t_MAX_SIDE)) {t_MAX_DIMS : Tok} (c_MAX_DIMS : mg "MAX_DIMS" = some (.int 4 t_MAX_DIMS)) {f_is_integer : Addr} {fd_is_integer : FuncData} (F_is_integer : FnG P w K mg base CX0 1 f_is_integer fd_is_integer ["value", "low", "high"] (liftSp K sp_is_integer)) (q_is_integer : Gkb K mg "is_integer" f_is_integer fd_is_integer ["value", "low", "high"]) : FnG P w K mg base CX0 2 f fd ["value"] (liftSp K sp_sides_error) := by
  have nd := sc_sides_error.nd
  replace F_is_integer := F_is_integer.mono (show 1 ≤ 1 by decide)
  refine okD (wb := w_sides_error) F sc_sides_error ln_sides_error (fun cdv A outer s H E hr => ?_) rd_sides_error
  exact (jss_cons (js_if (jt_w (jw_or (jt_not (jt_val (je_isi (T := "tuple") (by simp) rfl z_isinstance boot_isinstance rfl z_tuple boot_tuple (jv 0)))) (jw_or1 (jt_not (jt_chain d_le d_le je_int (je_fn c_len rfl z_len boot_len (ja_cons (jv 0) ja_nil)) (je_glob (v := .int 4) rfl c_MAX_DIMS ⟨_, rfl⟩ (fun _ _ => .int _))))))) (jss_one (js_ret (je_tup (ja_cons je_non (ja_cons je_str ja_nil))))) jss_nil)
    (jss_cons (js_for PassesOwn.never rfl (ji_enum rfl z_enumerate (ja_cons (jv 0) ja_nil)) (jg_tup rfl (jgs_cons (jgn 1 nd) (jgs_cons (jgn 2 nd) jgs_nil)) (gs_lenN (gs_lenN gs_len0))) (jss_one (js_if (jt_not (jt_val (je_call (m := []) F_is_integer hr rfl q_is_integer.g q_is_integer.k q_is_integer.b (ja_cons (jv 2) (ja_cons je_int (ja_cons (je_glob (v := .int 1000000000000) rfl c_MAX_SIDE ⟨_, rfl⟩ (fun _ _ => .int _)) ja_nil)))))) (jss_one (js_ret (je_tup (ja_cons (jv 1) (ja_cons je_str ja_nil))))) jss_nil)))
    (jss_one (js_ret je_non))))
set_option maxHeartbeats 0 in
theorem ok_kinds_error {f : Addr} {fd : FuncData} (F : Fun K "kinds_error" "kinds_error" s_kinds_error f fd) (z_enumerate : mg "enumerate" = none) (z_len : mg "len" = none) (z_isinstance : mg "isinstance" = none) (z_tuple : mg "tuple" = none) {t_MAX_KINDS : Tok} (c_MAX_KINDS : mg "MAX_KINDS" = some (.int 4 t_MAX_KINDS)) {f_sides_error : Addr} {fd_sides_error : FuncData} (F_sides_error : FnG P w K mg base CX0 2 f_sides_error fd_sides_error ["value"] (liftSp K sp_sides_error)) (q_sides_error : Gkb K mg "sides_error" f_sides_error fd_sides_error ["value"]) : FnG P w K mg base CX0 3 f fd ["value"] (liftSp K sp_kinds_error) := by
  have nd := sc_kinds_error.nd
  replace F_sides_error := F_sides_error.mono (show 2 ≤ 2 by decide)
  refine okD (wb := w_kinds_error) F sc_kinds_error ln_kinds_error (fun cdv A outer s H E hr => ?_) rd_kinds_error
  exact (jss_cons (js_if (jt_w (jw_or (jt_not (jt_val (je_isi (T := "tuple") (by simp) rfl z_isinstance boot_isinstance rfl z_tuple boot_tuple (jv 0)))) (jw_or1 (jt_not (jt_chain d_le d_le je_int (je_fn c_len rfl z_len boot_len (ja_cons (jv 0) ja_nil)) (je_glob (v := .int 4) rfl c_MAX_KINDS ⟨_, rfl⟩ (fun _ _ => .int _))))))) (jss_one (js_ret (je_tup (ja_cons je_non (ja_cons je_str ja_nil))))) jss_nil)
    (jss_cons (js_for PassesOwn.never rfl (ji_enum rfl z_enumerate (ja_cons (jv 0) ja_nil)) (jg_tup rfl (jgs_cons (jgn 1 nd) (jgs_cons (jgn 2 nd) jgs_nil)) (gs_lenN (gs_lenN gs_len0))) (jss_cons (js_if (jt_cmp d_isnot (je_call (m := []) F_sides_error hr rfl q_sides_error.g q_sides_error.k q_sides_error.b (ja_cons (jv 2) ja_nil)) je_non) (jss_one (js_ret (je_tup (ja_cons (jv 1) (ja_cons je_str ja_nil))))) jss_nil)
    (jss_one (js_if (jt_cmp (d_ne hr.u64) (je_fn c_len rfl z_len boot_len (ja_cons (jv 2) ja_nil)) (je_fn c_len rfl z_len boot_len (ja_cons (je_ix d_ix (jv 0) je_int (fun _ _ => rfl)) ja_nil))) (jss_one (js_ret (je_tup (ja_cons (jv 1) (ja_cons je_str ja_nil))))) jss_nil))))
    (jss_one (js_ret je_non))))
set_option maxHeartbeats 0 in
theorem ok_pair_error {f : Addr} {fd : FuncData} (F : Fun K "pair_error" "pair_error" s_pair_error f fd) (z_len : mg "len" = none) {f_kinds_error : Addr} {fd_kinds_error : FuncData} (F_kinds_error : FnG P w K mg base CX0 3 f_kinds_error fd_kinds_error ["value"] (liftSp K sp_kinds_error)) (q_kinds_error : Gkb K mg "kinds_error" f_kinds_error fd_kinds_error ["value"]) : FnG P w K mg base CX0 4 f fd ["value"] (liftSp K sp_pair_error) := by
  have nd := sc_pair_error.nd
  replace F_kinds_error := F_kinds_error.mono (show 3 ≤ 3 by decide)
  refine okD (wb := w_pair_error) F sc_pair_error ln_pair_error (fun cdv A outer s H E hr => ?_) rd_pair_error
  exact (jss_cons (jset 1 nd (jm_e (je_call (m := []) F_kinds_error hr rfl q_kinds_error.g q_kinds_error.k q_kinds_error.b (ja_cons (jv 0) ja_nil))))
    (jss_cons (js_if (jt_w (jw_and (jt_cmp d_is (jv 1) je_non) (jw_and1 (jt_cmp (d_ne hr.u64) (je_fn c_len rfl z_len boot_len (ja_cons (jv 0) ja_nil)) je_int)))) (jss_one (js_ret (je_tup (ja_cons je_non (ja_cons je_str ja_nil))))) jss_nil)
    (jss_one (js_ret (jv 1)))))
set_option maxHeartbeats 0 in
theorem ok_rests {f : Addr} {fd : FuncData} (F : Fun K "rests" "rests" s_rests f fd) (z_enumerate : mg "enumerate" = none) : FnG P w K mg base CX0 1 f fd ["brick", "box"] (liftSp K sp_rests) := by
  have nd := sc_rests.nd
  refine okD (wb := w_rests) F sc_rests ln_rests (fun cdv A outer s H E hr => ?_) rd_rests
  exact (jss_one (js_ret (je_ofL (jl_comp (own := [("axis", 2), ("side", 3)]) rfl nd (ji_enum rfl z_enumerate (ja_cons (jv 1) ja_nil)) (blkOk_by (by kernel_rfl)) (by decide) (fun _ _ _ _ _ => (jg_tup rfl (jgs_cons (jgn 2 nd) (jgs_cons (jgn 3 nd) jgs_nil)) (gs_lenN (gs_lenN gs_len0)))) (fun _ _ _ _ _ => (jts_one (jt_cmp (d_ne hr.u64) (je_op d_mod (jv 3) (je_ix d_ix (jv 0) (jv 2) (fun _ _ => rfl))) je_int))) (fun _ _ _ _ _ => (jv 2))))))
set_option maxHeartbeats 0 in
theorem ok_atoms {f : Addr} {fd : FuncData} (F : Fun K "atoms" "atoms" s_atoms f fd) (z_sorted : mg "sorted" = none) (z_tuple : mg "tuple" = none) {f_rests : Addr} {fd_rests : FuncData} (F_rests : FnG P w K mg base CX0 1 f_rests fd_rests ["brick", "box"] (liftSp K sp_rests)) (q_rests : Gkb K mg "rests" f_rests fd_rests ["brick", "box"]) : FnG P w K mg base CX0 2 f fd ["pair"] (liftSp K sp_atoms) := by
  have nd := sc_atoms.nd
  replace F_rests := F_rests.mono (show 1 ≤ 1 by decide)
  refine okD (wb := w_atoms) F sc_atoms ln_atoms (fun cdv A outer s H E hr => ?_) rd_atoms
  exact (jss_cons (js_asgG (jv 0) (jg_tup rfl (jgs_cons (jgn 1 nd) (jgs_cons (jgn 2 nd) jgs_nil)) (gs_lenN (gs_lenN gs_len0))))
    (jss_cons (js_if (jt_cmp (d_eq hr.u64) (jv 1) (jv 2)) (jss_one (js_ret (je_tup (ja_cons (jv 1) ja_nil)))) jss_nil)
    (jss_one (js_ret (je_ty c_tup rfl z_tuple boot_tuple (ja_cons (je_fn (c_sorted hr.u64) rfl z_sorted boot_sorted (ja_cons (je_ofL (jl_comp (own := [("brick", 3), ("mate", 4)]) rfl nd (ji_seq (je_tup (ja_cons (je_tup (ja_cons (jv 1) (ja_cons (jv 2) ja_nil))) (ja_cons (je_tup (ja_cons (jv 2) (ja_cons (jv 1) ja_nil))) ja_nil)))) (blkOk_by (by kernel_rfl)) (by decide) (fun _ _ _ _ _ => (jg_tup rfl (jgs_cons (jgn 3 nd) (jgs_cons (jgn 4 nd) jgs_nil)) (gs_lenN (gs_lenN gs_len0)))) (fun _ _ _ _ _ => (jts_one (jt_cmp (d_ne hr.u64) (je_call (m := []) F_rests hr rfl q_rests.g q_rests.k q_rests.b (ja_cons (jv 4) (ja_cons (jv 3) ja_nil))) (je_ofL (jl_lst ja_nil))))) (fun _ _ _ _ _ => (jv 3)))) ja_nil)) ja_nil))))))
set_option maxHeartbeats 0 in
theorem ok_Bricks_init {f : Addr} {fd : FuncData} (F : Fun K "__init__" "Bricks.__init__" s_Bricks_init f fd) {TL : XNames} {C_Bricks : Addr} (ob_Bricks : ObjK K "Bricks" C_Bricks) (na_Bricks_both : NoAttr K C_Bricks "both") (na_Bricks_parts : NoAttr K C_Bricks "parts") {f_atoms : Addr} {fd_atoms : FuncData} (F_atoms : FnG P w K mg base CX0 2 f_atoms fd_atoms ["pair"] (liftSp K sp_atoms)) (q_atoms : Gkb K mg "atoms" f_atoms fd_atoms ["pair"]) {f_pair_error : Addr} {fd_pair_error : FuncData} (F_pair_error : FnG P w K mg base CX0 4 f_pair_error fd_pair_error ["value"] (liftSp K sp_pair_error)) (q_pair_error : Gkb K mg "pair_error" f_pair_error fd_pair_error ["value"]) (x_BadKinds : XC1 P w K mg base TL "BadKinds" "error") : FnG P w K mg base (L2N.CX P w) 5 f fd ["self", "one", "other"] (liftSpX K TL sp_Bricks_init) := by
  have nd := sc_Bricks_init.nd
  replace F_atoms := F_atoms.mono (show 2 ≤ 4 by decide)
  replace F_pair_error := F_pair_error.mono (show 4 ≤ 4 by decide)
  refine okX (TL := TL) (wb := w_Bricks_init) F sc_Bricks_init ln_Bricks_init (fun cdv A outer s H E hr => ?_) rd_Bricks_init
  exact (jssx_cons (jsx_of (jset 3 nd (jm_e (je_call (m := []) F_pair_error hr rfl q_pair_error.g q_pair_error.k q_pair_error.b (ja_cons (je_tup (ja_cons (jv 1) (ja_cons (jv 2) ja_nil))) ja_nil)))))
    (jssx_cons (jsx_if (jt_cmp d_isnot (jv 3) je_non) (jssx_one (jsx_raise rfl (jmk1x x_BadKinds (hr.mono (by decide)) rfl (ja_cons (jv 3) ja_nil)))) (jssx_of jss_nil))
    (jssx_cons (jsx_of (js_asgG (je_tup (ja_cons (jv 1) (ja_cons (jv 2) ja_nil))) (jg_attr ob_Bricks.at_ na_Bricks_both (jpv 0))))
    (jssx_one (jsx_of (js_asgG (je_call (m := []) F_atoms hr rfl q_atoms.g q_atoms.k q_atoms.b (ja_cons (je_fldO ob_Bricks.at_ na_Bricks_both (jpv 0)) ja_nil)) (jg_attr ob_Bricks.at_ na_Bricks_parts (jpv 0))))))))
set_option maxHeartbeats 0 in
theorem ok_number_at {f : Addr} {fd : FuncData} (F : Fun K "number_at" "number_at" s_number_at f fd) {TL : XNames} (z_int : mg "int" = none) (z_len : mg "len" = none) {t_MAX_SIDE : Tok} (c_MAX_SIDE : mg "MAX_SIDE" = some (.int 1000000000000 t_MAX_SIDE)) {t_FIGURES : Tok} (c_FIGURES : mg "FIGURES" = some (.str "0123456789" t_FIGURES)) (x_BadText : XC1 P w K mg base TL "BadText" "place") : FnG P w K mg base (L2N.CX P w) 3 f fd ["text", "at"] (liftSpX K TL sp_number_atX) := by
  have nd := sc_number_at.nd
  refine okX (TL := TL) (wb := w_number_atX) F sc_number_at ln_number_atX (fun cdv A outer s H E hr => ?_) rd_number_atX
  exact (jssx_cons (jsx_if (jt_w (jw_or (jt_cmp (d_eq hr.u64) (jv 1) (je_fn c_len rfl z_len boot_len (ja_cons (jv 0) ja_nil))) (jw_or (jt_cmp (d_eq hr.u64) (je_ix d_ix (jv 0) (jv 1) (fun _ _ => rfl)) je_str) (jw_or1 (jt_cmp (d_notIn hr.u65) (je_ix d_ix (jv 0) (jv 1) (fun _ _ => rfl)) (je_glob (v := .str "0123456789") rfl c_FIGURES ⟨_, rfl⟩ (fun _ _ => .str _))))))) (jssx_one (jsx_raise rfl (jmk1x x_BadText (hr.mono (by decide)) rfl (ja_cons (jv 1) ja_nil)))) (jssx_of jss_nil))
    (jssx_cons (jsx_of (jset 2 nd (jm_e je_int)))
    (jssx_cons (jsx_of (js_while PassesOwn.leaving (jt_w (jw_and (jt_cmp d_lt (jv 1) (je_fn c_len rfl z_len boot_len (ja_cons (jv 0) ja_nil))) (jw_and (jt_cmp (d_in hr.u65) (je_ix d_ix (jv 0) (jv 1) (fun _ _ => rfl)) (je_glob (v := .str "0123456789") rfl c_FIGURES ⟨_, rfl⟩ (fun _ _ => .str _))) (jw_and1 (jt_cmp d_le (je_op d_addB (je_op d_mulT (jv 2) je_int) (je_ty c_int rfl z_int boot_int (ja_cons (je_ix d_ix (jv 0) (jv 1) (fun _ _ => rfl)) ja_nil))) (je_glob (v := .int 1000000000000) rfl c_MAX_SIDE ⟨_, rfl⟩ (fun _ _ => .int _))))))) (jss_one (jpar (i := 2) (j := 1) rfl nd rfl rfl (by decide) (jms_cons (jm_e (je_op d_addB (je_op d_mulT (jv 2) je_int) (je_ty c_int rfl z_int boot_int (ja_cons (je_ix d_ix (jv 0) (jv 1) (fun _ _ => rfl)) ja_nil)))) (jms_cons (jm_e (je_op d_addB (jv 1) je_int)) jms_nil))))))
    (jssx_one (jsx_of (js_ret (je_tup (ja_cons (jv 2) (ja_cons (jv 1) ja_nil)))))))))
set_option maxHeartbeats 0 in
theorem ok_sides_at {f : Addr} {fd : FuncData} (F : Fun K "sides_at" "sides_at" s_sides_at f fd) {TL : XNames} (z_tuple : mg "tuple" = none) (z_len : mg "len" = none) {f_number_at : Addr} {fd_number_at : FuncData} (F_number_at : FnG P w K mg base (L2N.CX P w) 3 f_number_at fd_number_at ["text", "at"] (liftSpX K TL sp_number_atX)) (q_number_at : Gkb K mg "number_at" f_number_at fd_number_at ["text", "at"]) : FnG P w K mg base (L2N.CX P w) 4 f fd ["text", "at", "most"] (liftSpX K TL sp_sides_atX) := by
  have nd := sc_sides_at.nd
  replace F_number_at := F_number_at.mono (show 3 ≤ 3 by decide)
  refine okX (TL := TL) (wb := w_sides_atX) F sc_sides_at ln_sides_atX (fun cdv A outer s H E hr => ?_) rd_sides_atX
  exact (jssx_cons (jsx_asgG (jex_call (m := []) F_number_at hr rfl q_number_at.g q_number_at.k q_number_at.b (jxa (ja_cons (jv 0) (ja_cons (jv 1) ja_nil)))) (jg_tup rfl (jgs_cons (jgn 3 nd) (jgs_cons (jgn 1 nd) jgs_nil)) (gs_lenN (gs_lenN gs_len0))))
    (jssx_cons (jsx_of (jset 4 nd (jm_l (jl_lst (ja_cons (jv 3) ja_nil)))))
    (jssx_cons (jsx_while PassesOwn.leaving (jt_w (jw_and (jt_cmp d_lt (jv 1) (je_fn c_len rfl z_len boot_len (ja_cons (jv 0) ja_nil))) (jw_and (jt_cmp (d_eq hr.u64) (je_ix d_ix (jv 0) (jv 1) (fun _ _ => rfl)) je_str) (jw_and1 (jt_cmp d_lt (je_fn c_len rfl z_len boot_len (ja_cons (jv 4) ja_nil)) (jv 2)))))) (jssx_cons (jsx_asgG (jex_call (m := []) F_number_at hr rfl q_number_at.g q_number_at.k q_number_at.b (jxa (ja_cons (jv 0) (ja_cons (je_op d_addB (jv 1) je_int) ja_nil)))) (jg_tup rfl (jgs_cons (jgn 3 nd) (jgs_cons (jgn 1 nd) jgs_nil)) (gs_lenN (gs_lenN gs_len0))))
    (jssx_one (jsx_of (js_append (jpv 4) (jv 3) rfl rfl (pe_bm PySem.F.plainAttrs_list PySem.F.slot_list_append PySem.F.type_list_append mt_append (jpv 4) (pa_cons (jv 3) pa_nil)))))))
    (jssx_one (jsx_of (js_ret (je_tup (ja_cons (je_ty c_tup rfl z_tuple boot_tuple (ja_cons (jv 4) ja_nil)) (ja_cons (jv 1) ja_nil)))))))))
set_option maxHeartbeats 0 in
theorem ok_require_text {f : Addr} {fd : FuncData} (F : Fun K "require_text" "require_text" s_require_text f fd) {TL : XNames} (z_isinstance : mg "isinstance" = none) (z_str : mg "str" = none) (x_BadText : XC1 P w K mg base TL "BadText" "place") : FnG P w K mg base (L2N.CX P w) 3 f fd ["value"] (liftSpX K TL sp_require_textX) := by
  have nd := sc_require_text.nd
  refine okX (TL := TL) (wb := w_require_textX) F sc_require_text ln_require_textX (fun cdv A outer s H E hr => ?_) rd_require_textX
  exact (jssx_one (jsx_if (jt_not (jt_val (je_isi (T := "str") (by simp) rfl z_isinstance boot_isinstance rfl z_str boot_str (jv 0)))) (jssx_one (jsx_raise rfl (jmk1x x_BadText (hr.mono (by decide)) rfl (ja_cons je_non ja_nil)))) (jssx_of jss_nil)))
set_option maxHeartbeats 0 in
theorem ok_parse_kinds {f : Addr} {fd : FuncData} (F : Fun K "parse_kinds" "parse_kinds" s_parse_kinds f fd) {TL : XNames} (z_tuple : mg "tuple" = none) (z_len : mg "len" = none) {t_MAX_KINDS : Tok} (c_MAX_KINDS : mg "MAX_KINDS" = some (.int 4 t_MAX_KINDS)) {t_MAX_DIMS : Tok} (c_MAX_DIMS : mg "MAX_DIMS" = some (.int 4 t_MAX_DIMS)) {f_sides_at : Addr} {fd_sides_at : FuncData} (F_sides_at : FnG P w K mg base (L2N.CX P w) 4 f_sides_at fd_sides_at ["text", "at", "most"] (liftSpX K TL sp_sides_atX)) (q_sides_at : Gkb K mg "sides_at" f_sides_at fd_sides_at ["text", "at", "most"]) {f_require_text : Addr} {fd_require_text : FuncData} (F_require_text : FnG P w K mg base (L2N.CX P w) 3 f_require_text fd_require_text ["value"] (liftSpX K TL sp_require_textX)) (q_require_text : Gkb K mg "require_text" f_require_text fd_require_text ["value"]) (x_BadText : XC1 P w K mg base TL "BadText" "place") : FnG P w K mg base (L2N.CX P w) 5 f fd ["value"] (liftSpX K TL sp_parse_kindsX) := by
  have nd := sc_parse_kinds.nd
  replace F_sides_at := F_sides_at.mono (show 4 ≤ 4 by decide)
  replace F_require_text := F_require_text.mono (show 3 ≤ 4 by decide)
  refine okX (TL := TL) (wb := w_parse_kindsX) F sc_parse_kinds ln_parse_kindsX (fun cdv A outer s H E hr => ?_) rd_parse_kindsX
  exact (jssx_cons (jsx_expr (jex_call (m := []) F_require_text hr rfl q_require_text.g q_require_text.k q_require_text.b (jxa (ja_cons (jv 0) ja_nil))))
    (jssx_cons (jsx_asgG (jex_call (m := []) F_sides_at hr rfl q_sides_at.g q_sides_at.k q_sides_at.b (jxa (ja_cons (jv 0) (ja_cons je_int (ja_cons (je_glob (v := .int 4) rfl c_MAX_DIMS ⟨_, rfl⟩ (fun _ _ => .int _)) ja_nil))))) (jg_tup rfl (jgs_cons (jgn 1 nd) (jgs_cons (jgn 2 nd) jgs_nil)) (gs_lenN (gs_lenN gs_len0))))
    (jssx_cons (jsx_of (jset 3 nd (jm_l (jl_lst (ja_cons (jv 1) ja_nil)))))
    (jssx_cons (jsx_while PassesOwn.leaving (jt_w (jw_and (jt_cmp d_lt (jv 2) (je_fn c_len rfl z_len boot_len (ja_cons (jv 0) ja_nil))) (jw_and (jt_cmp (d_eq hr.u64) (je_ix d_ix (jv 0) (jv 2) (fun _ _ => rfl)) je_str) (jw_and1 (jt_cmp d_lt (je_fn c_len rfl z_len boot_len (ja_cons (jv 3) ja_nil)) (je_glob (v := .int 4) rfl c_MAX_KINDS ⟨_, rfl⟩ (fun _ _ => .int _))))))) (jssx_cons (jsx_asgG (jex_call (m := []) F_sides_at hr rfl q_sides_at.g q_sides_at.k q_sides_at.b (jxa (ja_cons (jv 0) (ja_cons (je_op d_addB (jv 2) je_int) (ja_cons (je_fn c_len rfl z_len boot_len (ja_cons (jv 1) ja_nil)) ja_nil))))) (jg_tup rfl (jgs_cons (jgn 4 nd) (jgs_cons (jgn 2 nd) jgs_nil)) (gs_lenN (gs_lenN gs_len0))))
    (jssx_cons (jsx_if (jt_cmp d_lt (je_fn c_len rfl z_len boot_len (ja_cons (jv 4) ja_nil)) (je_fn c_len rfl z_len boot_len (ja_cons (jv 1) ja_nil))) (jssx_one (jsx_raise rfl (jmk1x x_BadText (hr.mono (by decide)) rfl (ja_cons (jv 2) ja_nil)))) (jssx_of jss_nil))
    (jssx_one (jsx_of (js_append (jpv 3) (jv 4) rfl rfl (pe_bm PySem.F.plainAttrs_list PySem.F.slot_list_append PySem.F.type_list_append mt_append (jpv 3) (pa_cons (jv 4) pa_nil))))))))
    (jssx_cons (jsx_if (jt_cmp d_lt (jv 2) (je_fn c_len rfl z_len boot_len (ja_cons (jv 0) ja_nil))) (jssx_one (jsx_raise rfl (jmk1x x_BadText (hr.mono (by decide)) rfl (ja_cons (jv 2) ja_nil)))) (jssx_of jss_nil))
    (jssx_one (jsx_of (js_ret (je_ty c_tup rfl z_tuple boot_tuple (ja_cons (jv 3) ja_nil))))))))))
set_option maxHeartbeats 0 in
theorem ok_Bricks_read {f : Addr} {fd : FuncData} (F : Fun K "read" "Bricks.read" s_Bricks_read f fd) {TL : XNames} {C_Bricks : Addr} (ob_Bricks : ObjK K "Bricks" C_Bricks) {f_Bricks_init : Addr} {fd_Bricks_init : FuncData} (F_Bricks_init : FnG P w K mg base (L2N.CX P w) 5 f_Bricks_init fd_Bricks_init ["self", "one", "other"] (liftSpX K TL sp_Bricks_init)) (mk_Bricks : Mk K C_Bricks f_Bricks_init) (mg_Bricks : mg "Bricks" = some (.ref C_Bricks)) (b_Bricks_init : Binds K fd_Bricks_init ["self", "one", "other"] []) {f_pair_error : Addr} {fd_pair_error : FuncData} (F_pair_error : FnG P w K mg base CX0 4 f_pair_error fd_pair_error ["value"] (liftSp K sp_pair_error)) (q_pair_error : Gkb K mg "pair_error" f_pair_error fd_pair_error ["value"]) {f_parse_kinds : Addr} {fd_parse_kinds : FuncData} (F_parse_kinds : FnG P w K mg base (L2N.CX P w) 5 f_parse_kinds fd_parse_kinds ["value"] (liftSpX K TL sp_parse_kindsX)) (q_parse_kinds : Gkb K mg "parse_kinds" f_parse_kinds fd_parse_kinds ["value"]) (x_BadKinds : XC1 P w K mg base TL "BadKinds" "error") : FnG P w K mg base (L2N.CX P w) 7 f fd ["cls", "value"] (liftSpX K TL sp_Bricks_read) := by
  have nd := sc_Bricks_read.nd
  replace F_Bricks_init := F_Bricks_init.mono (show 5 ≤ 5 by decide)
  replace F_pair_error := F_pair_error.mono (show 4 ≤ 6 by decide)
  replace F_parse_kinds := F_parse_kinds.mono (show 5 ≤ 6 by decide)
  refine okX (TL := TL) (wb := w_Bricks_read) F sc_Bricks_read ln_Bricks_read (fun cdv A outer s H E hr => ?_) rd_Bricks_read
  exact (jssx_cons (jxset 2 nd (jex_call (m := []) F_parse_kinds hr rfl q_parse_kinds.g q_parse_kinds.k q_parse_kinds.b (jxa (ja_cons (jv 1) ja_nil))))
    (jssx_cons (jsx_of (jset 3 nd (jm_e (je_call (m := []) F_pair_error hr rfl q_pair_error.g q_pair_error.k q_pair_error.b (ja_cons (jv 2) ja_nil)))))
    (jssx_cons (jsx_if (jt_cmp d_isnot (jv 3) je_non) (jssx_one (jsx_raise rfl (jmk1x x_BadKinds (hr.mono (by decide)) rfl (ja_cons (jv 3) ja_nil)))) (jssx_of jss_nil))
    (jssx_one (jsx_ret (jex_makeL (j := 0) ob_Bricks mk_Bricks F_Bricks_init hr b_Bricks_init ob_Bricks.at_ rfl (.inl rfl) (ja_cons (je_ix d_ix (jv 2) je_int (fun _ _ => rfl)) (ja_cons (je_ix d_ix (jv 2) je_int (fun _ _ => rfl)) ja_nil))))))))
set_option maxHeartbeats 0 in
theorem ok_Bricks___str__ {f : Addr} {fd : FuncData} (F : Fun K "__str__" "Bricks.__str__" s_Bricks___str__ f fd) {C_Bricks : Addr} (ob_Bricks : ObjK K "Bricks" C_Bricks) (na_Bricks_both : NoAttr K C_Bricks "both") {f_kinds_text : Addr} {fd_kinds_text : FuncData} (F_kinds_text : FnG P w K mg base CX0 2 f_kinds_text fd_kinds_text ["kinds"] (liftSp K sp_kinds_text)) (q_kinds_text : Gkb K mg "kinds_text" f_kinds_text fd_kinds_text ["kinds"]) : FnG P w K mg base CX0 3 f fd ["self"] (liftSp K sp_Bricks___str__) := by
  have nd := sc_Bricks___str__.nd
  replace F_kinds_text := F_kinds_text.mono (show 2 ≤ 2 by decide)
  refine okD (wb := w_Bricks___str__) F sc_Bricks___str__ ln_Bricks___str__ (fun cdv A outer s H E hr => ?_) rd_Bricks___str__
  exact (jss_one (js_ret (je_joined1 (je_fmt (je_call (m := []) F_kinds_text hr rfl q_kinds_text.g q_kinds_text.k q_kinds_text.b (ja_cons (je_fld ob_Bricks.at_ na_Bricks_both (jv 0)) ja_nil))))))
set_option maxHeartbeats 0 in
theorem ok_Ldeck {f : Addr} {fd : FuncData} (F : Fun K "_law_deck" "_law_deck" s_Ldeck f fd) (z_abs : mg "abs" = none) (z_len : mg "len" = none) : FnG P w K mg base CX0 1 f fd ["_law_script"] (liftM K spDeck) := by
  have nd := sc_Ldeck.nd
  refine ok_deck F sc_Ldeck rfl rfl rfl (fun cdv A outer s H E hr => ?_) (fun cdv A outer s H E hr => ?_)
  · exact (js_setCL (i := 1) (own := [("_law_cell", 2)]) rfl nd rfl rfl (sw_true rfl rfl rfl (by decide +kernel)) (ji_seq (je_cut (jpv 0))) (blkOk_by (by kernel_rfl)) (by decide) (fun _ _ _ _ _ => (jgn 2 nd)) (fun _ _ _ _ _ => jts_nil) (fun _ _ _ _ _ => je_fn c_abs rfl z_abs boot_abs (ja_cons (jv 2) ja_nil)))
  · exact (jms_cons (jm_l (jl_comp (own := [("_law_cell", 2)]) rfl nd (ji_seq (jv 1)) (blkOk_by (by kernel_rfl)) (by decide) (fun _ _ _ _ _ => (jgn 2 nd)) (fun _ _ _ _ _ => jts_one (jt_cmp d_ge (jv 2) (je_op d_pow je_int je_int))) (fun _ _ _ _ _ => (jv 2))))
      (jms_cons (jm_l (jl_op d_addL (jv 1) (je_ofL (jl_lst (ja_cons (je_op d_add je_int (je_fn c_len rfl z_len boot_len (ja_cons (jv 1) ja_nil))) ja_nil))))) (jms_cons (jm_e je_int) jms_nil)))
set_option maxHeartbeats 0 in
theorem ok_Ldraw {f : Addr} {fd : FuncData} (F : Fun K "_law_draw" "_law_draw" s_Ldraw f fd) (z_int : mg "int" = none) (z_len : mg "len" = none) : FnG P w K mg base CX0 1 f fd ["_law_deck_here", "_law_many"] (liftSp K spDraw) := by
  have nd := sc_Ldraw.nd
  refine ok_draw F sc_Ldraw rfl rfl fun cdv A outer s H E hr => ?_
  exact (jss_cons (js_if (jt_kne hr.u64 (jpv 0)) (jss_cons (jset 2 nd (jm_e (je_k00 (jpv 0)))) (jss_cons (js_put00 (jpv 0) (je_op d_div (jv 2) (jv 1)))
      (jss_cons (js_if (jt_cmp (d_eq hr.u64) (je_k00 (jpv 0)) je_int) (jss_one (js_pop0 (jpv 0) rfl (pe_bm PySem.F.plainAttrs_list PySem.F.slot_list_pop PySem.F.type_list_pop mt_popAt (pe_ix ix_list (jpv 0) pe_int (fun _ _ => rfl)) (pa_cons pe_int pa_nil)))) jss_nil)
      (jss_one (js_ret (je_op d_mod (je_ty c_int rfl z_int boot_int (ja_cons (jv 2) ja_nil)) (jv 1))))))) jss_nil)
    (jss_cons (js_put2 (jpv 0) (je_op d_add (je_k2 (jpv 0)) je_int))
    (jss_cons (jset 3 nd (jm_e (je_k1 (jpv 0) (je_op d_mod (je_ty c_int rfl z_int boot_int (ja_cons (je_k2 (jpv 0)) ja_nil)) (je_klen rfl z_len boot_len (jpv 0))) (fun _ _ => rfl))))
    (jss_cons (jset 4 nd (jm_e (je_op d_mod (je_ty c_int rfl z_int boot_int (ja_cons (je_op d_add (je_op d_mod (je_ty c_int rfl z_int boot_int (ja_cons (jv 3) ja_nil)) je_int) (je_op d_mul je_int (je_k2 (jpv 0)))) ja_nil)) je_int)))
    (jss_cons (jset 4 nd (jm_e (je_op d_mod (je_ty c_int rfl z_int boot_int (ja_cons (je_op d_add (je_op d_mul (jv 4) (jv 4)) (je_op d_mul je_int (je_k2 (jpv 0)))) ja_nil)) je_int)))
    (jss_one (js_ret (je_op d_mod (je_op d_div (je_op d_mod (je_ty c_int rfl z_int boot_int (ja_cons (je_op d_mul (jv 4) (jv 4)) ja_nil)) je_int) je_int) (jv 1)))))))))
set_option maxHeartbeats 0 in
theorem ok_Lone {f : Addr} {fd : FuncData} (F : Fun K "_law_one" "_law_one" s_Lone f fd) (z_len : mg "len" = none) {f_Ldraw : Addr} {fd_Ldraw : FuncData} (F_Ldraw : FnG P w K mg base CX0 1 f_Ldraw fd_Ldraw ["_law_deck_here", "_law_many"] (liftSp K sp_Ldraw)) (q_Ldraw : Gkb K mg "_law_draw" f_Ldraw fd_Ldraw ["_law_deck_here", "_law_many"]) : FnG P w K mg base CX0 2 f fd ["_law_deck_here", "_law_items"] (liftSp K sp_Lone) := by
  have nd := sc_Lone.nd
  replace F_Ldraw := F_Ldraw.mono (show 1 ≤ 1 by decide)
  refine okD (wb := w_Lone) F sc_Lone ln_Lone (fun cdv A outer s H E hr => ?_) rd_Lone
  exact (jss_one (js_ret (je_ix d_ix (jv 1) (je_call (m := [true, false]) F_Ldraw hr rfl q_Ldraw.g q_Ldraw.k q_Ldraw.b (ja_cons (jv 0) (ja_cons (je_fn c_len rfl z_len boot_len (ja_cons (jv 1) ja_nil)) ja_nil))) (fun _ _ => rfl))))
set_option maxHeartbeats 0 in
theorem ok_Lodd {f : Addr} {fd : FuncData} (F : Fun K "_law_odd" "_law_odd" s_Lodd f fd) {f_Lone : Addr} {fd_Lone : FuncData} (F_Lone : FnG P w K mg base CX0 2 f_Lone fd_Lone ["_law_deck_here", "_law_items"] (liftSp K sp_Lone)) (q_Lone : Gkb K mg "_law_one" f_Lone fd_Lone ["_law_deck_here", "_law_items"]) : FnG P w K mg base CX0 3 f fd ["_law_deck_here"] (liftSp K sp_Lodd) := by
  have nd := sc_Lodd.nd
  replace F_Lone := F_Lone.mono (show 2 ≤ 2 by decide)
  refine okD (wb := w_Lodd) F sc_Lodd ln_Lodd (fun cdv A outer s H E hr => ?_) rd_Lodd
  exact (jss_cons (jset 1 nd (jm_e (je_ofL (jl_lst (ja_cons je_non (ja_cons je_bl (ja_cons je_bl (ja_cons je_int (ja_cons je_int (ja_cons je_int (ja_cons (je_neg je_int) (ja_cons (je_op d_pow je_int je_int) (ja_cons je_str (ja_cons je_str (ja_cons je_str (ja_cons je_str (ja_cons (je_tup ja_nil) (ja_cons (je_ofL (jl_lst ja_nil)) (ja_cons je_dic (ja_cons (je_tup (ja_cons je_int ja_nil)) (ja_cons (je_tup (ja_cons je_int ja_nil)) (ja_cons (je_tup (ja_cons je_int (ja_cons je_int ja_nil))) (ja_cons (je_tup (ja_cons je_int (ja_cons je_int ja_nil))) ja_nil)))))))))))))))))))))))
    (jss_cons (jset 1 nd (jm_e (je_op d_addB (jv 1) (je_ofL (jl_lst (ja_cons (je_tup (ja_cons je_bl ja_nil)) (ja_cons (je_tup (ja_cons je_int (ja_cons (je_tup (ja_cons je_int ja_nil)) ja_nil))) (ja_cons (je_tup (ja_cons je_int (ja_cons (je_tup (ja_cons je_int (ja_cons je_int ja_nil))) ja_nil))) (ja_cons (je_tup (ja_cons je_int (ja_cons (je_tup (ja_cons je_int (ja_cons je_int ja_nil))) ja_nil))) (ja_cons (je_tup (ja_cons je_int (ja_cons (je_tup (ja_cons je_int (ja_cons je_int ja_nil))) (ja_cons je_int ja_nil)))) (ja_cons (je_tup (ja_cons (je_tup (ja_cons je_int (ja_cons je_int ja_nil))) (ja_cons je_int ja_nil))) (ja_cons (je_tup (ja_cons (je_tup (ja_cons je_int ja_nil)) (ja_cons je_int ja_nil))) (ja_cons (je_tup (ja_cons je_str (ja_cons je_int ja_nil))) ja_nil)))))))))))))
    (jss_one (js_ret (je_call (m := [true, false]) F_Lone hr rfl q_Lone.g q_Lone.k q_Lone.b (ja_cons (jv 0) (ja_cons (je_op d_addB (jv 1) (je_ofL (jl_lst (ja_cons (je_tup (ja_cons je_non ja_nil)) (ja_cons (je_tup (ja_cons (je_neg je_int) ja_nil)) (ja_cons (je_tup (ja_cons je_int (ja_cons (je_tup (ja_cons (je_neg je_int) ja_nil)) ja_nil))) (ja_cons (je_tup (ja_cons je_int (ja_cons (je_tup (ja_cons je_bl (ja_cons je_int ja_nil))) ja_nil))) (ja_cons (je_tup (ja_cons je_int (ja_cons je_int ja_nil))) (ja_cons (je_tup (ja_cons (je_tup (ja_cons je_int (ja_cons je_int ja_nil))) (ja_cons (je_tup (ja_cons je_int (ja_cons je_int ja_nil))) ja_nil))) (ja_cons (je_tup (ja_cons (je_tup (ja_cons je_int ja_nil)) (ja_cons (je_tup (ja_cons je_int ja_nil)) ja_nil))) ja_nil)))))))))) ja_nil)))))))
set_option maxHeartbeats 0 in
theorem ok_Lfar {f : Addr} {fd : FuncData} (F : Fun K "_law_far" "_law_far" s_Lfar f fd) {f_Lone : Addr} {fd_Lone : FuncData} (F_Lone : FnG P w K mg base CX0 2 f_Lone fd_Lone ["_law_deck_here", "_law_items"] (liftSp K sp_Lone)) (q_Lone : Gkb K mg "_law_one" f_Lone fd_Lone ["_law_deck_here", "_law_items"]) {f_Ldraw : Addr} {fd_Ldraw : FuncData} (F_Ldraw : FnG P w K mg base CX0 1 f_Ldraw fd_Ldraw ["_law_deck_here", "_law_many"] (liftSp K sp_Ldraw)) (q_Ldraw : Gkb K mg "_law_draw" f_Ldraw fd_Ldraw ["_law_deck_here", "_law_many"]) : FnG P w K mg base CX0 3 f fd ["_law_deck_here"] (liftSp K sp_Lfar) := by
  have nd := sc_Lfar.nd
  replace F_Lone := F_Lone.mono (show 2 ≤ 2 by decide)
  replace F_Ldraw := F_Ldraw.mono (show 1 ≤ 2 by decide)
  refine okD (wb := w_Lfar) F sc_Lfar ln_Lfar (fun cdv A outer s H E hr => ?_) rd_Lfar
  exact (jss_one (js_ret (je_call (m := [true, false]) F_Lone hr rfl q_Lone.g q_Lone.k q_Lone.b (ja_cons (jv 0) (ja_cons (je_ofL (jl_lst (ja_cons (je_op d_addB je_int (je_call (m := [true, false]) F_Ldraw hr rfl q_Ldraw.g q_Ldraw.k q_Ldraw.b (ja_cons (jv 0) (ja_cons je_int ja_nil)))) (ja_cons (je_op d_addB je_int (je_call (m := [true, false]) F_Ldraw hr rfl q_Ldraw.g q_Ldraw.k q_Ldraw.b (ja_cons (jv 0) (ja_cons (je_op d_pow je_int je_int) ja_nil)))) (ja_cons (je_op d_addB je_int (je_call (m := [true, false]) F_Ldraw hr rfl q_Ldraw.g q_Ldraw.k q_Ldraw.b (ja_cons (jv 0) (ja_cons (je_op d_pow je_int je_int) ja_nil)))) (ja_cons (je_op d_pow je_int je_int) ja_nil)))))) ja_nil)))))
set_option maxHeartbeats 0 in
theorem ok_Lwide {f : Addr} {fd : FuncData} (F : Fun K "_law_wide" "_law_wide" s_Lwide f fd) (z_range : mg "range" = none) (z_tuple : mg "tuple" = none) {f_Lfar : Addr} {fd_Lfar : FuncData} (F_Lfar : FnG P w K mg base CX0 3 f_Lfar fd_Lfar ["_law_deck_here"] (liftSp K sp_Lfar)) (q_Lfar : Gkb K mg "_law_far" f_Lfar fd_Lfar ["_law_deck_here"]) : FnG P w K mg base CX0 4 f fd ["_law_deck_here", "_law_axes"] (liftSp K sp_Lwide) := by
  have nd := sc_Lwide.nd
  replace F_Lfar := F_Lfar.mono (show 3 ≤ 3 by decide)
  refine okD (wb := w_Lwide) F sc_Lwide ln_Lwide (fun cdv A outer s H E hr => ?_) rd_Lwide
  exact (jss_one (js_ret (je_ty c_tup rfl z_tuple boot_tuple (ja_cons (je_ofL (jl_comp (own := [("_law_axis", 2)]) rfl nd (ji_range1 rfl z_range (ja_cons (jv 1) ja_nil)) (blkOk_by (by kernel_rfl)) (by decide) (fun _ _ _ _ _ => (jgn 2 nd)) (fun _ _ _ _ _ => jts_nil) (fun _ _ _ _ _ => (je_call (m := [true]) F_Lfar hr rfl q_Lfar.g q_Lfar.k q_Lfar.b (ja_cons (jv 0) ja_nil))))) ja_nil))))
set_option maxHeartbeats 0 in
theorem ok_Bricks_pair {f : Addr} {fd : FuncData} (F : Fun K "pair" "Bricks.pair" s_Bricks_pair f fd) {C_Bricks : Addr} (ob_Bricks : ObjK K "Bricks" C_Bricks) (na_Bricks_both : NoAttr K C_Bricks "both") : FnG P w K mg base CX0 1 f fd ["self"] (liftSp K sp_Bricks_pair) := by
  have nd := sc_Bricks_pair.nd
  refine okD (wb := w_Bricks_pair) F sc_Bricks_pair ln_Bricks_pair (fun cdv A outer s H E hr => ?_) rd_Bricks_pair
  exact (jss_one (js_ret (je_fld ob_Bricks.at_ na_Bricks_both (jv 0))))
set_option maxHeartbeats 0 in
theorem ok_Lread {f : Addr} {fd : FuncData} (F : Fun K "_law_read" "_law_read" s_Lread f fd) {TL : XNames} {C_Bricks : Addr} (ob_Bricks : ObjK K "Bricks" C_Bricks) {f_Bricks_pair : Addr} {fd_Bricks_pair : FuncData} (F_Bricks_pair : FnG P w K mg base CX0 1 f_Bricks_pair fd_Bricks_pair ["self"] (liftSp K sp_Bricks_pair)) {p_Bricks_pair : Addr} (pp_Bricks_pair : PropOf K C_Bricks "pair" p_Bricks_pair f_Bricks_pair) (b_Bricks_pair : Binds K fd_Bricks_pair ["self"] []) {f_Bricks_read p_Bricks_read : Addr} {fd_Bricks_read : FuncData} (F_Bricks_read : FnG P w K mg base (L2N.CX P w) 7 f_Bricks_read fd_Bricks_read ["cls", "value"] (liftSpX K TL sp_Bricks_read)) (cr_Bricks_read : ClX.CRead K C_Bricks (.type "type")) (cm_Bricks_read : ClX.CMet K C_Bricks (.type "type") "read" p_Bricks_read f_Bricks_read) (mgc_Bricks_read : mg "Bricks" = some (.ref C_Bricks)) (b_Bricks_read : Binds K fd_Bricks_read ["cls", "value"] []) (tl : TLok K TL) (y_BadText : YC K mg TL "BadText" (fun (n : Str) => n == "BadText")) (y_BadKinds : YC K mg TL "BadKinds" (fun (n : Str) => n == "BadKinds")) (fc_place : FC K TL "place") (fc_error : FC K TL "error") : FnG P w K mg base CX0 8 f fd ["_law_value"] (liftSp K sp_Lread) := by
  have nd := sc_Lread.nd
  replace F_Bricks_pair := F_Bricks_pair.mono (show 1 ≤ 5 by decide)
  replace F_Bricks_read := F_Bricks_read.mono (show 7 ≤ 7 by decide)
  refine okD (wb := w_Lread) F sc_Lread ln_Lread (fun cdv A outer s H E hr => ?_) rd_Lread
  exact (jss_cons (js_noX (TL := TL) (jsx_tryM tl rfl rfl nd (fun pn xe po => (jssx_one (jxset 1 nd (jex_lst (jax_cons (jxe je_str) (jax_cons (jex_prop (m := []) ob_Bricks.at_ ob_Bricks.cl pp_Bricks_pair F_Bricks_pair (hr.mono (by decide)) b_Bricks_pair (jex_cmeth ob_Bricks.at_ cr_Bricks_read cm_Bricks_read F_Bricks_read hr b_Bricks_read rfl mgc_Bricks_read (ja_cons (jv 0) ja_nil))) jax_nil)))))) (.as (i := 2) y_BadText rfl (by decide) rfl rfl (fun a oe cls d pn hz hv hC => (jss_one (jset 1 nd (jm_e (je_ofL (jl_lst (ja_cons je_str (ja_cons (jxf 2 tl fc_place hz hv hC) ja_nil)))))))) (.as (i := 2) y_BadKinds rfl (by decide) rfl rfl (fun a oe cls d pn hz hv hC => (jss_one (jset 1 nd (jm_e (je_ofL (jl_lst (ja_cons je_str (ja_cons (jxf 2 tl fc_error hz hv hC) ja_nil)))))))) .nil))))
    (jss_one (js_ret (jv 1))))
set_option maxHeartbeats 0 in
theorem ok_Ldue {f : Addr} {fd : FuncData} (F : Fun K "_law_due" "_law_due" s_Ldue f fd) {TL : XNames} (z_len : mg "len" = none) {f_parse_kinds : Addr} {fd_parse_kinds : FuncData} (F_parse_kinds : FnG P w K mg base (L2N.CX P w) 5 f_parse_kinds fd_parse_kinds ["value"] (liftSpX K TL sp_parse_kindsX)) (q_parse_kinds : Gkb K mg "parse_kinds" f_parse_kinds fd_parse_kinds ["value"]) (tl : TLok K TL) (y_BadText : YC K mg TL "BadText" (fun (n : Str) => n == "BadText")) (fc_place : FC K TL "place") : FnG P w K mg base CX0 6 f fd ["_law_value"] (liftSp K sp_Ldue_k76) := by
  have nd := sc_Ldue.nd
  replace F_parse_kinds := F_parse_kinds.mono (show 5 ≤ 5 by decide)
  refine okD (wb := w_Ldue_k76) F sc_Ldue ln_Ldue_k76 (fun cdv A outer s H E hr => ?_) rd_Ldue_k76
  exact (jss_cons (js_noX (TL := TL) (jsx_tryx (i := 3) tl y_BadText rfl rfl nd rfl rfl rfl (fun pn xe po => (jssx_cons (jxset 1 nd (jex_call (m := []) F_parse_kinds hr rfl q_parse_kinds.g q_parse_kinds.k q_parse_kinds.b (jxa (ja_cons (jv 0) ja_nil))))
    (jssx_one (jsx_of (jset 2 nd (jm_e (je_ifE (jt_cmp (d_eq hr.u64) (je_fn c_len rfl z_len boot_len (ja_cons (jv 1) ja_nil)) je_int) (je_ofL (jl_lst (ja_cons je_str (ja_cons (jv 1) ja_nil)))) (je_ofL (jl_lst (ja_cons je_str (ja_cons (je_tup (ja_cons je_non (ja_cons je_str ja_nil))) ja_nil))))))))))) (fun a oe cls d pn hz hv hC => (jss_one (jset 2 nd (jm_e (je_ofL (jl_lst (ja_cons je_str (ja_cons (jxf 3 tl fc_place hz hv hC) ja_nil))))))))))
    (jss_one (js_ret (jv 2))))
set_option maxHeartbeats 0 in
theorem ok_law {f : Addr} {fd : FuncData} (F : Fun K "law" "law" s_law f fd) {TL : XNames} {C_Bricks : Addr} (ob_Bricks : ObjK K "Bricks" C_Bricks) (z_range : mg "range" = none) (z_repr : mg "repr" = none) (z_len : mg "len" = none) (z_str : mg "str" = none) {f_Lodd : Addr} {fd_Lodd : FuncData} (F_Lodd : FnG P w K mg base CX0 3 f_Lodd fd_Lodd ["_law_deck_here"] (liftSp K sp_Lodd)) (q_Lodd : Gkb K mg "_law_odd" f_Lodd fd_Lodd ["_law_deck_here"]) {f_Lread : Addr} {fd_Lread : FuncData} (F_Lread : FnG P w K mg base CX0 8 f_Lread fd_Lread ["_law_value"] (liftSp K sp_Lread)) (q_Lread : Gkb K mg "_law_read" f_Lread fd_Lread ["_law_value"]) {f_Ldue : Addr} {fd_Ldue : FuncData} (F_Ldue : FnG P w K mg base CX0 6 f_Ldue fd_Ldue ["_law_value"] (liftSp K sp_Ldue_k76)) (q_Ldue : Gkb K mg "_law_due" f_Ldue fd_Ldue ["_law_value"]) {f_Ldraw : Addr} {fd_Ldraw : FuncData} (F_Ldraw : FnG P w K mg base CX0 1 f_Ldraw fd_Ldraw ["_law_deck_here", "_law_many"] (liftSp K sp_Ldraw)) (q_Ldraw : Gkb K mg "_law_draw" f_Ldraw fd_Ldraw ["_law_deck_here", "_law_many"]) {f_kinds_text : Addr} {fd_kinds_text : FuncData} (F_kinds_text : FnG P w K mg base CX0 2 f_kinds_text fd_kinds_text ["kinds"] (liftSp K sp_kinds_text)) (q_kinds_text : Gkb K mg "kinds_text" f_kinds_text fd_kinds_text ["kinds"]) {f_Bricks___str__ : Addr} {fd_Bricks___str__ : FuncData} (F_Bricks___str__ : FnG P w K mg base CX0 3 f_Bricks___str__ fd_Bricks___str__ ["self"] (liftSp K sp_Bricks___str__)) (mt_Bricks___str__ : Meth K C_Bricks "__str__" f_Bricks___str__) (b_Bricks___str__ : Binds K fd_Bricks___str__ ["self"] []) {f_Bricks_read p_Bricks_read : Addr} {fd_Bricks_read : FuncData} (F_Bricks_read : FnG P w K mg base (L2N.CX P w) 7 f_Bricks_read fd_Bricks_read ["cls", "value"] (liftSpX K TL sp_Bricks_read)) (cr_Bricks_read : ClX.CRead K C_Bricks (.type "type")) (cm_Bricks_read : ClX.CMet K C_Bricks (.type "type") "read" p_Bricks_read f_Bricks_read) (mgc_Bricks_read : mg "Bricks" = some (.ref C_Bricks)) (b_Bricks_read : Binds K fd_Bricks_read ["cls", "value"] []) {f_Lwide : Addr} {fd_Lwide : FuncData} (F_Lwide : FnG P w K mg base CX0 4 f_Lwide fd_Lwide ["_law_deck_here", "_law_axes"] (liftSp K sp_Lwide)) (q_Lwide : Gkb K mg "_law_wide" f_Lwide fd_Lwide ["_law_deck_here", "_law_axes"]) {f_Ldeck : Addr} {fd_Ldeck : FuncData} (F_Ldeck : FnG P w K mg base CX0 1 f_Ldeck fd_Ldeck ["_law_script"] (liftM K sp_Ldeck)) (q_Ldeck : Gkb K mg "_law_deck" f_Ldeck fd_Ldeck ["_law_script"]) : FnG P w K mg base CX0 9 f fd ["_law_script"] (liftSp K sp_law) := by
  have nd := sc_law.nd
  replace F_Lodd := F_Lodd.mono (show 3 ≤ 8 by decide)
  replace F_Lread := F_Lread.mono (show 8 ≤ 8 by decide)
  replace F_Ldue := F_Ldue.mono (show 6 ≤ 8 by decide)
  replace F_Ldraw := F_Ldraw.mono (show 1 ≤ 8 by decide)
  replace F_kinds_text := F_kinds_text.mono (show 2 ≤ 8 by decide)
  replace F_Bricks___str__ := F_Bricks___str__.mono (show 3 ≤ 6 by decide)
  replace F_Bricks_read := F_Bricks_read.mono (show 7 ≤ 8 by decide)
  replace F_Lwide := F_Lwide.mono (show 4 ≤ 8 by decide)
  replace F_Ldeck := F_Ldeck.mono (show 1 ≤ 8 by decide)
  refine okD (wb := w_law) F sc_law ln_law (fun cdv A outer s H E hr => ?_) rd_law
  exact (jss_cons (jset 1 nd (jm_call (m := [true]) F_Ldeck hr rfl q_Ldeck.g q_Ldeck.k q_Ldeck.b (ja_cons (jv 0) ja_nil)))
    (jss_cons (js_for PassesOwn.never rfl (ji_range1 rfl z_range (ja_cons je_int ja_nil)) (jgn 2 nd) (jss_cons (jset 3 nd (jm_e (je_op d_addB je_int (je_call (m := [true, false]) F_Ldraw hr rfl q_Ldraw.g q_Ldraw.k q_Ldraw.b (ja_cons (jv 1) (ja_cons je_int ja_nil))))))
    (jss_cons (jset 4 nd (jm_e (je_tup (ja_cons (je_call (m := [true, false]) F_Lwide hr rfl q_Lwide.g q_Lwide.k q_Lwide.b (ja_cons (jv 1) (ja_cons (jv 3) ja_nil))) (ja_cons (je_call (m := [true, false]) F_Lwide hr rfl q_Lwide.g q_Lwide.k q_Lwide.b (ja_cons (jv 1) (ja_cons (jv 3) ja_nil))) ja_nil)))))
    (jss_cons (jset 5 nd (jm_e (je_call (m := []) F_kinds_text hr rfl q_kinds_text.g q_kinds_text.k q_kinds_text.b (ja_cons (jv 4) ja_nil))))
    (jss_cons (js_if (jt_w (jw_or (jt_cmp (d_ne hr.u64) (je_fn (c_reprN hr.gd hr.u64) rfl z_repr boot_repr (ja_cons (je_call (m := []) F_Lread hr rfl q_Lread.g q_Lread.k q_Lread.b (ja_cons (jv 5) ja_nil)) ja_nil)) (je_fn (c_reprN hr.gd hr.u64) rfl z_repr boot_repr (ja_cons (je_ofL (jl_lst (ja_cons je_str (ja_cons (jv 4) ja_nil)))) ja_nil))) (jw_or1 (jt_cmp (d_ne hr.u64) (je_strO (m := []) ob_Bricks.at_ mt_Bricks___str__ F_Bricks___str__ (hr.mono (by decide)) b_Bricks___str__ rfl rfl z_str boot_str (ja_cons (jnx (TL := TL) (jex_cmeth ob_Bricks.at_ cr_Bricks_read cm_Bricks_read F_Bricks_read hr b_Bricks_read rfl mgc_Bricks_read (ja_cons (jv 5) ja_nil))) ja_nil)) (jv 5))))) (jss_one (js_ret je_bl)) jss_nil)
    (jss_cons (js_if (jt_w (jw_or (jt_cmp (d_ne hr.u64) (je_call (m := []) F_Lread hr rfl q_Lread.g q_Lread.k q_Lread.b (ja_cons (je_call (m := []) F_kinds_text hr rfl q_kinds_text.g q_kinds_text.k q_kinds_text.b (ja_cons (je_sl d_sl (jv 4) jo_none (jo_some je_int)) ja_nil)) ja_nil)) (je_ofL (jl_lst (ja_cons je_str (ja_cons (je_tup (ja_cons je_non (ja_cons je_str ja_nil))) ja_nil))))) (jw_or1 (jt_cmp (d_ne hr.u64) (je_call (m := []) F_Lread hr rfl q_Lread.g q_Lread.k q_Lread.b (ja_cons (je_call (m := []) F_kinds_text hr rfl q_kinds_text.g q_kinds_text.k q_kinds_text.b (ja_cons (je_op d_addB (jv 4) (jv 4)) ja_nil)) ja_nil)) (je_ofL (jl_lst (ja_cons je_str (ja_cons (je_tup (ja_cons je_non (ja_cons je_str ja_nil))) ja_nil)))))))) (jss_one (js_ret je_bl)) jss_nil)
    (jss_cons (jset 6 nd (jm_e (je_call (m := [true, false]) F_Ldraw hr rfl q_Ldraw.g q_Ldraw.k q_Ldraw.b (ja_cons (jv 1) (ja_cons (je_op d_addB (je_fn c_len rfl z_len boot_len (ja_cons (jv 5) ja_nil)) je_int) ja_nil)))))
    (jss_cons (jset 7 nd (jm_e (je_ofL (jl_lst (ja_cons (je_sl d_sl (jv 5) jo_none (jo_some (jv 6))) (ja_cons (je_op d_addB (je_op d_addB (je_sl d_sl (jv 5) jo_none (jo_some (jv 6))) je_str) (je_sl d_sl (jv 5) (jo_some (jv 6)) jo_none)) (ja_cons (je_op d_addB (je_op d_addB (je_sl d_sl (jv 5) jo_none (jo_some (jv 6))) je_str) (je_sl d_sl (jv 5) (jo_some (jv 6)) jo_none)) (ja_cons (je_op d_addB (jv 5) je_str) (ja_cons (je_revS (jv 5)) (ja_cons je_str (ja_cons je_non (ja_cons (je_ofL (jl_lst (ja_cons (jv 5) ja_nil))) ja_nil))))))))))))
    (jss_one (js_for PassesOwn.never rfl (ji_seq (je_op d_addB (jv 7) (je_ofL (jl_lst (ja_cons (je_call (m := [true]) F_Lodd hr rfl q_Lodd.g q_Lodd.k q_Lodd.b (ja_cons (jv 1) ja_nil)) ja_nil))))) (jgn 8 nd) (jss_one (js_if (jt_cmp (d_ne hr.u64) (je_fn (c_reprN hr.gd hr.u64) rfl z_repr boot_repr (ja_cons (je_call (m := []) F_Lread hr rfl q_Lread.g q_Lread.k q_Lread.b (ja_cons (jv 8) ja_nil)) ja_nil)) (je_fn (c_reprN hr.gd hr.u64) rfl z_repr boot_repr (ja_cons (je_call (m := []) F_Ldue hr rfl q_Ldue.g q_Ldue.k q_Ldue.b (ja_cons (jv 8) ja_nil)) ja_nil))) (jss_one (js_ret je_bl)) jss_nil))))))))))))
    (jss_one (js_ret je_bl))))
end K76
set_option Elab.async false
set_option linter.all false
set_option maxRecDepth 100000
set_option maxHeartbeats 4000000
namespace K76
open PySem PySem.Spec PyProof.Rows L2 DL TW
def tbK (K : W.Frag) : DL.Tb := ⟨[]⟩
theorem all_mk {w : World} {K : W.Frag} {h : Heap} {mg : Str → Option Value} {fa : Addr} (X : K.In h) (G : h.Ns mainGlobals mg) (hfa : mg "law" = some (.ref fa)) (T : Told defs asks tabs h K) :
    ∃ fd : FuncData, OneArgT PySem.Challenge.rw_twobricks_k76_bricks_read.prog w K mg 9 fa "_law_script" (letI : DL.Tb := tbK K; liftSp K spLaw) (tabs.map (He.cT K)) fd := by
  letI : DL.Tb := tbK K
  have a_law : W.nsIn K mainGlobals "law" = some (some (.ref (He.ga K "law"))) := aG_ok (T.x 0 _ rfl)
  have e := hfa.symm.trans (W.mg_of X G a_law)
  cases e
  have ac_Bricks : W.nsIn K mainGlobals "Bricks" = some (some (.ref (He.ga K "Bricks"))) := aG_ok (T.x 1 _ rfl)
  have ob_Bricks : ObjK K "Bricks" (He.ga K "Bricks") := aOb_ok (T.x 2 _ rfl)
  obtain ⟨mm_Bricks, mp_Bricks⟩ := aMk_ok (T.x 3 _ rfl)
  have na_Bricks_both : NoAttr K (He.ga K "Bricks") "both" := aN_ok (T.x 4 _ rfl)
  have na_Bricks_parts : NoAttr K (He.ga K "Bricks") "parts" := aN_ok (T.x 5 _ rfl)
  have a_sides_text : W.nsIn K mainGlobals "sides_text" = some (some (.ref (He.ga K "sides_text"))) := aG_ok (T.x 6 _ rfl)
  obtain ⟨fd_sides_text, (F_sides_text : Fun K "sides_text" "sides_text" s_sides_text (He.ga K "sides_text") fd_sides_text)⟩ := T.fn 0 (d := ⟨fun K => He.ga K "sides_text", "sides_text", "sides_text", s_sides_text, []⟩) rfl rfl
  have k_sides_text := F_sides_text.kp
  have b_sides_text := F_sides_text.binds (ps := ["sides"]) fun _ _ _ _ _ _ us hl => match us, hl with | [_], _ => rfl
  have a_kinds_text : W.nsIn K mainGlobals "kinds_text" = some (some (.ref (He.ga K "kinds_text"))) := aG_ok (T.x 7 _ rfl)
  obtain ⟨fd_kinds_text, (F_kinds_text : Fun K "kinds_text" "kinds_text" s_kinds_text (He.ga K "kinds_text") fd_kinds_text)⟩ := T.fn 1 (d := ⟨fun K => He.ga K "kinds_text", "kinds_text", "kinds_text", s_kinds_text, []⟩) rfl rfl
  have k_kinds_text := F_kinds_text.kp
  have b_kinds_text := F_kinds_text.binds (ps := ["kinds"]) fun _ _ _ _ _ _ us hl => match us, hl with | [_], _ => rfl
  have a_is_integer : W.nsIn K mainGlobals "is_integer" = some (some (.ref (He.ga K "is_integer"))) := aG_ok (T.x 8 _ rfl)
  obtain ⟨fd_is_integer, (F_is_integer : Fun K "is_integer" "is_integer" s_is_integer (He.ga K "is_integer") fd_is_integer)⟩ := T.fn 2 (d := ⟨fun K => He.ga K "is_integer", "is_integer", "is_integer", s_is_integer, []⟩) rfl rfl
  have k_is_integer := F_is_integer.kp
  have b_is_integer := F_is_integer.binds (ps := ["value", "low", "high"]) fun _ _ _ _ _ _ us hl => match us, hl with | [_, _, _], _ => rfl
  have a_sides_error : W.nsIn K mainGlobals "sides_error" = some (some (.ref (He.ga K "sides_error"))) := aG_ok (T.x 9 _ rfl)
  obtain ⟨fd_sides_error, (F_sides_error : Fun K "sides_error" "sides_error" s_sides_error (He.ga K "sides_error") fd_sides_error)⟩ := T.fn 3 (d := ⟨fun K => He.ga K "sides_error", "sides_error", "sides_error", s_sides_error, []⟩) rfl rfl
  have k_sides_error := F_sides_error.kp
  have b_sides_error := F_sides_error.binds (ps := ["value"]) fun _ _ _ _ _ _ us hl => match us, hl with | [_], _ => rfl
  have a_kinds_error : W.nsIn K mainGlobals "kinds_error" = some (some (.ref (He.ga K "kinds_error"))) := aG_ok (T.x 10 _ rfl)
  obtain ⟨fd_kinds_error, (F_kinds_error : Fun K "kinds_error" "kinds_error" s_kinds_error (He.ga K "kinds_error") fd_kinds_error)⟩ := T.fn 4 (d := ⟨fun K => He.ga K "kinds_error", "kinds_error", "kinds_error", s_kinds_error, []⟩) rfl rfl
  have k_kinds_error := F_kinds_error.kp
  have b_kinds_error := F_kinds_error.binds (ps := ["value"]) fun _ _ _ _ _ _ us hl => match us, hl with | [_], _ => rfl
  have a_pair_error : W.nsIn K mainGlobals "pair_error" = some (some (.ref (He.ga K "pair_error"))) := aG_ok (T.x 11 _ rfl)
  obtain ⟨fd_pair_error, (F_pair_error : Fun K "pair_error" "pair_error" s_pair_error (He.ga K "pair_error") fd_pair_error)⟩ := T.fn 5 (d := ⟨fun K => He.ga K "pair_error", "pair_error", "pair_error", s_pair_error, []⟩) rfl rfl
  have k_pair_error := F_pair_error.kp
  have b_pair_error := F_pair_error.binds (ps := ["value"]) fun _ _ _ _ _ _ us hl => match us, hl with | [_], _ => rfl
  have a_rests : W.nsIn K mainGlobals "rests" = some (some (.ref (He.ga K "rests"))) := aG_ok (T.x 12 _ rfl)
  obtain ⟨fd_rests, (F_rests : Fun K "rests" "rests" s_rests (He.ga K "rests") fd_rests)⟩ := T.fn 6 (d := ⟨fun K => He.ga K "rests", "rests", "rests", s_rests, []⟩) rfl rfl
  have k_rests := F_rests.kp
  have b_rests := F_rests.binds (ps := ["brick", "box"]) fun _ _ _ _ _ _ us hl => match us, hl with | [_, _], _ => rfl
  have a_atoms : W.nsIn K mainGlobals "atoms" = some (some (.ref (He.ga K "atoms"))) := aG_ok (T.x 13 _ rfl)
  obtain ⟨fd_atoms, (F_atoms : Fun K "atoms" "atoms" s_atoms (He.ga K "atoms") fd_atoms)⟩ := T.fn 7 (d := ⟨fun K => He.ga K "atoms", "atoms", "atoms", s_atoms, []⟩) rfl rfl
  have k_atoms := F_atoms.kp
  have b_atoms := F_atoms.binds (ps := ["pair"]) fun _ _ _ _ _ _ us hl => match us, hl with | [_], _ => rfl
  obtain ⟨a_Bricks_init, i_Bricks_init, k_Bricks_init⟩ := aM_ok (T.x 14 _ rfl)
  obtain ⟨fd_Bricks_init, (F_Bricks_init : Fun K "__init__" "Bricks.__init__" s_Bricks_init (He.ma K (He.ga K "Bricks") "__init__") fd_Bricks_init)⟩ := T.fn 8 (d := ⟨fun K => He.ma K (He.ga K "Bricks") "__init__", "__init__", "Bricks.__init__", s_Bricks_init, []⟩) rfl rfl
  have b_Bricks_init := F_Bricks_init.binds (ps := ["self", "one", "other"]) fun _ _ _ _ _ _ us hl => match us, hl with | [_, _, _], _ => rfl
  have a_number_at : W.nsIn K mainGlobals "number_at" = some (some (.ref (He.ga K "number_at"))) := aG_ok (T.x 15 _ rfl)
  obtain ⟨fd_number_at, (F_number_at : Fun K "number_at" "number_at" s_number_at (He.ga K "number_at") fd_number_at)⟩ := T.fn 9 (d := ⟨fun K => He.ga K "number_at", "number_at", "number_at", s_number_at, []⟩) rfl rfl
  have k_number_at := F_number_at.kp
  have b_number_at := F_number_at.binds (ps := ["text", "at"]) fun _ _ _ _ _ _ us hl => match us, hl with | [_, _], _ => rfl
  have a_sides_at : W.nsIn K mainGlobals "sides_at" = some (some (.ref (He.ga K "sides_at"))) := aG_ok (T.x 16 _ rfl)
  obtain ⟨fd_sides_at, (F_sides_at : Fun K "sides_at" "sides_at" s_sides_at (He.ga K "sides_at") fd_sides_at)⟩ := T.fn 10 (d := ⟨fun K => He.ga K "sides_at", "sides_at", "sides_at", s_sides_at, []⟩) rfl rfl
  have k_sides_at := F_sides_at.kp
  have b_sides_at := F_sides_at.binds (ps := ["text", "at", "most"]) fun _ _ _ _ _ _ us hl => match us, hl with | [_, _, _], _ => rfl
  have a_require_text : W.nsIn K mainGlobals "require_text" = some (some (.ref (He.ga K "require_text"))) := aG_ok (T.x 17 _ rfl)
  obtain ⟨fd_require_text, (F_require_text : Fun K "require_text" "require_text" s_require_text (He.ga K "require_text") fd_require_text)⟩ := T.fn 11 (d := ⟨fun K => He.ga K "require_text", "require_text", "require_text", s_require_text, []⟩) rfl rfl
  have k_require_text := F_require_text.kp
  have b_require_text := F_require_text.binds (ps := ["value"]) fun _ _ _ _ _ _ us hl => match us, hl with | [_], _ => rfl
  have a_parse_kinds : W.nsIn K mainGlobals "parse_kinds" = some (some (.ref (He.ga K "parse_kinds"))) := aG_ok (T.x 18 _ rfl)
  obtain ⟨fd_parse_kinds, (F_parse_kinds : Fun K "parse_kinds" "parse_kinds" s_parse_kinds (He.ga K "parse_kinds") fd_parse_kinds)⟩ := T.fn 12 (d := ⟨fun K => He.ga K "parse_kinds", "parse_kinds", "parse_kinds", s_parse_kinds, []⟩) rfl rfl
  have k_parse_kinds := F_parse_kinds.kp
  have b_parse_kinds := F_parse_kinds.binds (ps := ["value"]) fun _ _ _ _ _ _ us hl => match us, hl with | [_], _ => rfl
  obtain ⟨cr_Bricks_read, cm_Bricks_read⟩ := aCm_ok (T.x 19 _ rfl)
  obtain ⟨fd_Bricks_read, (F_Bricks_read : Fun K "read" "Bricks.read" s_Bricks_read (cmF K "Bricks" "read") fd_Bricks_read)⟩ := T.fn 13 (d := ⟨fun K => cmF K "Bricks" "read", "read", "Bricks.read", s_Bricks_read, []⟩) rfl rfl
  have b_Bricks_read := F_Bricks_read.binds (ps := ["cls", "value"]) fun _ _ _ _ _ _ us hl => match us, hl with | [_, _], _ => rfl
  obtain ⟨a_Bricks___str__, i_Bricks___str__, k_Bricks___str__⟩ := aM_ok (T.x 20 _ rfl)
  obtain ⟨fd_Bricks___str__, (F_Bricks___str__ : Fun K "__str__" "Bricks.__str__" s_Bricks___str__ (He.ma K (He.ga K "Bricks") "__str__") fd_Bricks___str__)⟩ := T.fn 14 (d := ⟨fun K => He.ma K (He.ga K "Bricks") "__str__", "__str__", "Bricks.__str__", s_Bricks___str__, []⟩) rfl rfl
  have b_Bricks___str__ := F_Bricks___str__.binds (ps := ["self"]) fun _ _ _ _ _ _ us hl => match us, hl with | [_], _ => rfl
  have a_Ldeck : W.nsIn K mainGlobals "_law_deck" = some (some (.ref (He.ga K "_law_deck"))) := aG_ok (T.x 21 _ rfl)
  obtain ⟨fd_Ldeck, (F_Ldeck : Fun K "_law_deck" "_law_deck" s_Ldeck (He.ga K "_law_deck") fd_Ldeck)⟩ := T.fn 15 (d := ⟨fun K => He.ga K "_law_deck", "_law_deck", "_law_deck", s_Ldeck, []⟩) rfl rfl
  have k_Ldeck := F_Ldeck.kp
  have b_Ldeck := F_Ldeck.binds (ps := ["_law_script"]) fun _ _ _ _ _ _ us hl => match us, hl with | [_], _ => rfl
  have a_Ldraw : W.nsIn K mainGlobals "_law_draw" = some (some (.ref (He.ga K "_law_draw"))) := aG_ok (T.x 22 _ rfl)
  obtain ⟨fd_Ldraw, (F_Ldraw : Fun K "_law_draw" "_law_draw" s_Ldraw (He.ga K "_law_draw") fd_Ldraw)⟩ := T.fn 16 (d := ⟨fun K => He.ga K "_law_draw", "_law_draw", "_law_draw", s_Ldraw, []⟩) rfl rfl
  have k_Ldraw := F_Ldraw.kp
  have b_Ldraw := F_Ldraw.binds (ps := ["_law_deck_here", "_law_many"]) fun _ _ _ _ _ _ us hl => match us, hl with | [_, _], _ => rfl
  have a_Lone : W.nsIn K mainGlobals "_law_one" = some (some (.ref (He.ga K "_law_one"))) := aG_ok (T.x 23 _ rfl)
  obtain ⟨fd_Lone, (F_Lone : Fun K "_law_one" "_law_one" s_Lone (He.ga K "_law_one") fd_Lone)⟩ := T.fn 17 (d := ⟨fun K => He.ga K "_law_one", "_law_one", "_law_one", s_Lone, []⟩) rfl rfl
  have k_Lone := F_Lone.kp
  have b_Lone := F_Lone.binds (ps := ["_law_deck_here", "_law_items"]) fun _ _ _ _ _ _ us hl => match us, hl with | [_, _], _ => rfl
  have a_Lodd : W.nsIn K mainGlobals "_law_odd" = some (some (.ref (He.ga K "_law_odd"))) := aG_ok (T.x 24 _ rfl)
  obtain ⟨fd_Lodd, (F_Lodd : Fun K "_law_odd" "_law_odd" s_Lodd (He.ga K "_law_odd") fd_Lodd)⟩ := T.fn 18 (d := ⟨fun K => He.ga K "_law_odd", "_law_odd", "_law_odd", s_Lodd, []⟩) rfl rfl
  have k_Lodd := F_Lodd.kp
  have b_Lodd := F_Lodd.binds (ps := ["_law_deck_here"]) fun _ _ _ _ _ _ us hl => match us, hl with | [_], _ => rfl
  have a_Lfar : W.nsIn K mainGlobals "_law_far" = some (some (.ref (He.ga K "_law_far"))) := aG_ok (T.x 25 _ rfl)
  obtain ⟨fd_Lfar, (F_Lfar : Fun K "_law_far" "_law_far" s_Lfar (He.ga K "_law_far") fd_Lfar)⟩ := T.fn 19 (d := ⟨fun K => He.ga K "_law_far", "_law_far", "_law_far", s_Lfar, []⟩) rfl rfl
  have k_Lfar := F_Lfar.kp
  have b_Lfar := F_Lfar.binds (ps := ["_law_deck_here"]) fun _ _ _ _ _ _ us hl => match us, hl with | [_], _ => rfl
  have a_Lwide : W.nsIn K mainGlobals "_law_wide" = some (some (.ref (He.ga K "_law_wide"))) := aG_ok (T.x 26 _ rfl)
  obtain ⟨fd_Lwide, (F_Lwide : Fun K "_law_wide" "_law_wide" s_Lwide (He.ga K "_law_wide") fd_Lwide)⟩ := T.fn 20 (d := ⟨fun K => He.ga K "_law_wide", "_law_wide", "_law_wide", s_Lwide, []⟩) rfl rfl
  have k_Lwide := F_Lwide.kp
  have b_Lwide := F_Lwide.binds (ps := ["_law_deck_here", "_law_axes"]) fun _ _ _ _ _ _ us hl => match us, hl with | [_, _], _ => rfl
  obtain ⟨a_Bricks_pair, pg_Bricks_pair, pt_Bricks_pair, pr_Bricks_pair⟩ := aPr_ok (T.x 27 _ rfl)
  obtain ⟨fd_Bricks_pair, (F_Bricks_pair : Fun K "pair" "Bricks.pair" s_Bricks_pair (prF K "Bricks" "pair") fd_Bricks_pair)⟩ := T.fn 21 (d := ⟨fun K => prF K "Bricks" "pair", "pair", "Bricks.pair", s_Bricks_pair, []⟩) rfl rfl
  have k_Bricks_pair := F_Bricks_pair.kp
  have b_Bricks_pair := F_Bricks_pair.binds (ps := ["self"]) fun _ _ _ _ _ _ us hl => match us, hl with | [_], _ => rfl
  have a_Lread : W.nsIn K mainGlobals "_law_read" = some (some (.ref (He.ga K "_law_read"))) := aG_ok (T.x 28 _ rfl)
  obtain ⟨fd_Lread, (F_Lread : Fun K "_law_read" "_law_read" s_Lread (He.ga K "_law_read") fd_Lread)⟩ := T.fn 22 (d := ⟨fun K => He.ga K "_law_read", "_law_read", "_law_read", s_Lread, []⟩) rfl rfl
  have k_Lread := F_Lread.kp
  have b_Lread := F_Lread.binds (ps := ["_law_value"]) fun _ _ _ _ _ _ us hl => match us, hl with | [_], _ => rfl
  have a_Ldue : W.nsIn K mainGlobals "_law_due" = some (some (.ref (He.ga K "_law_due"))) := aG_ok (T.x 29 _ rfl)
  obtain ⟨fd_Ldue, (F_Ldue : Fun K "_law_due" "_law_due" s_Ldue (He.ga K "_law_due") fd_Ldue)⟩ := T.fn 23 (d := ⟨fun K => He.ga K "_law_due", "_law_due", "_law_due", s_Ldue, []⟩) rfl rfl
  have k_Ldue := F_Ldue.kp
  have b_Ldue := F_Ldue.binds (ps := ["_law_value"]) fun _ _ _ _ _ _ us hl => match us, hl with | [_], _ => rfl
  obtain ⟨fd_law, (F_law : Fun K "law" "law" s_law (He.ga K "law") fd_law)⟩ := T.fn 24 (d := ⟨fun K => He.ga K "law", "law", "law", s_law, []⟩) rfl rfl
  have k_law := F_law.kp
  have z_str : W.nsIn K mainGlobals "str" = some none := aZ_ok (T.x 30 _ rfl)
  have z_isinstance : W.nsIn K mainGlobals "isinstance" = some none := aZ_ok (T.x 31 _ rfl)
  have z_bool : W.nsIn K mainGlobals "bool" = some none := aZ_ok (T.x 32 _ rfl)
  have z_int : W.nsIn K mainGlobals "int" = some none := aZ_ok (T.x 33 _ rfl)
  have z_enumerate : W.nsIn K mainGlobals "enumerate" = some none := aZ_ok (T.x 34 _ rfl)
  have z_len : W.nsIn K mainGlobals "len" = some none := aZ_ok (T.x 35 _ rfl)
  have z_tuple : W.nsIn K mainGlobals "tuple" = some none := aZ_ok (T.x 36 _ rfl)
  have z_sorted : W.nsIn K mainGlobals "sorted" = some none := aZ_ok (T.x 37 _ rfl)
  have z_abs : W.nsIn K mainGlobals "abs" = some none := aZ_ok (T.x 38 _ rfl)
  have z_range : W.nsIn K mainGlobals "range" = some none := aZ_ok (T.x 39 _ rfl)
  have z_repr : W.nsIn K mainGlobals "repr" = some none := aZ_ok (T.x 40 _ rfl)
  obtain ⟨t_MAX_SIDE, v_MAX_SIDE⟩ := aI_ok X G (x := "MAX_SIDE") (i := 1000000000000) (T.x 41 _ rfl)
  obtain ⟨t_MAX_DIMS, v_MAX_DIMS⟩ := aI_ok X G (x := "MAX_DIMS") (i := 4) (T.x 42 _ rfl)
  obtain ⟨t_MAX_KINDS, v_MAX_KINDS⟩ := aI_ok X G (x := "MAX_KINDS") (i := 4) (T.x 43 _ rfl)
  obtain ⟨t_FIGURES, v_FIGURES⟩ := aS_ok X G (x := "FIGURES") (z := "0123456789") (T.x 44 _ rfl)
  have ac_BadKinds : W.nsIn K mainGlobals "BadKinds" = some (some (.ref (He.ga K "BadKinds"))) := aG_ok (T.x 45 _ rfl)
  have cf_BadKinds : CF K "BadKinds" (He.ga K "BadKinds") := aCF_ok (T.x 46 _ rfl)
  have ac_BadText : W.nsIn K mainGlobals "BadText" = some (some (.ref (He.ga K "BadText"))) := aG_ok (T.x 47 _ rfl)
  have cf_BadText : CF K "BadText" (He.ga K "BadText") := aCF_ok (T.x 48 _ rfl)
  have xa_BadKinds : XFa K "BadKinds" ["error"] "/claim/cut.py" "BadKinds.__init__" sx_BadKinds := aX_ok (T.x 49 _ rfl) (T.d 25 _ rfl).1 (T.d 25 _ rfl).2 rfl
  have xc_BadKinds : ∀ base : Heap, XC1 PySem.Challenge.rw_twobricks_k76_bricks_read.prog w K mg base [("BadKinds", (He.ga K "BadKinds")), ("BadText", (He.ga K "BadText"))] "BadKinds" "error" := by
    intro base
    obtain ⟨oc, od, dc, pm, an, cda, cc, ct, osl, ccl, cdd, cvs, ccs, tf, cl, cld, csl, l, k1, q1, q2, q3⟩ := xa_BadKinds.lk
    obtain ⟨cd, hc⟩ := xa_BadKinds.c
    refine' DL.xc1_mk X G ?hT cf_BadKinds ac_BadKinds hc xa_BadKinds.sub xa_BadKinds.opq xa_BadKinds.ini xa_BadKinds.ve xa_BadKinds.iC xa_BadKinds.tI l k1 q1 q2 ?hfile q3 xa_BadKinds.hsm ?S ?hp ?har ?hnd ?hks ?htop ?hst ?hev ?hsw ?hin ?hsw2 ?hf ?hdx ?hdc ?hb
    case hT => simp
    case hfile => first | rfl | kernel_rfl
    case S => decide +kernel
    case hp => rfl
    case har => rfl
    case hnd => decide
    case hks => rfl
    case htop => first | rfl | kernel_rfl
    case hst => intro L; rfl
    case hev => intro L; exact ⟨_, rfl⟩
    case hsw => intro L; rfl
    case hin => intro L; rfl
    case hsw2 => intro L; rfl
    case hf => exact xa_BadKinds.hf _ (by simp)
    case hdx => decide
    case hdc => decide
    case hb => intro us hl; exact match us, hl with | [_, _], _ => rfl
  have xa_BadText : XFa K "BadText" ["place"] "/claim/cut.py" "BadText.__init__" sx_BadText := aX_ok (T.x 50 _ rfl) (T.d 26 _ rfl).1 (T.d 26 _ rfl).2 rfl
  have xc_BadText : ∀ base : Heap, XC1 PySem.Challenge.rw_twobricks_k76_bricks_read.prog w K mg base [("BadKinds", (He.ga K "BadKinds")), ("BadText", (He.ga K "BadText"))] "BadText" "place" := by
    intro base
    obtain ⟨oc, od, dc, pm, an, cda, cc, ct, osl, ccl, cdd, cvs, ccs, tf, cl, cld, csl, l, k1, q1, q2, q3⟩ := xa_BadText.lk
    obtain ⟨cd, hc⟩ := xa_BadText.c
    refine' DL.xc1_mk X G ?hT cf_BadText ac_BadText hc xa_BadText.sub xa_BadText.opq xa_BadText.ini xa_BadText.ve xa_BadText.iC xa_BadText.tI l k1 q1 q2 ?hfile q3 xa_BadText.hsm ?S ?hp ?har ?hnd ?hks ?htop ?hst ?hev ?hsw ?hin ?hsw2 ?hf ?hdx ?hdc ?hb
    case hT => simp
    case hfile => first | rfl | kernel_rfl
    case S => decide +kernel
    case hp => rfl
    case har => rfl
    case hnd => decide
    case hks => rfl
    case htop => first | rfl | kernel_rfl
    case hst => intro L; rfl
    case hev => intro L; exact ⟨_, rfl⟩
    case hsw => intro L; rfl
    case hin => intro L; rfl
    case hsw2 => intro L; rfl
    case hf => exact xa_BadText.hf _ (by simp)
    case hdx => decide
    case hdc => decide
    case hb => intro us hl; exact match us, hl with | [_, _], _ => rfl
  have ah_BadText : W.nsIn K mainGlobals "BadText" = some (some (.ref (He.ga K "BadText"))) := aG_ok (T.x 47 _ rfl)
  have ah_BadKinds : W.nsIn K mainGlobals "BadKinds" = some (some (.ref (He.ga K "BadKinds"))) := aG_ok (T.x 45 _ rfl)
  have yc_BadText_BadKinds : W.exmOne K (.ref (He.ga K "BadKinds")) (.ref (He.ga K "BadText")) = some ((fun (n : Str) => n == "BadText") ("BadKinds" : Str)) := (aExm_ok (b := false) (T.x 51 _ rfl)).trans (congrArg some (by decide +kernel))
  have yc_BadText_BadText : W.exmOne K (.ref (He.ga K "BadText")) (.ref (He.ga K "BadText")) = some ((fun (n : Str) => n == "BadText") ("BadText" : Str)) := (aExm_ok (b := true) (T.x 52 _ rfl)).trans (congrArg some (by decide +kernel))
  have yc_BadKinds_BadKinds : W.exmOne K (.ref (He.ga K "BadKinds")) (.ref (He.ga K "BadKinds")) = some ((fun (n : Str) => n == "BadKinds") ("BadKinds" : Str)) := (aExm_ok (b := true) (T.x 53 _ rfl)).trans (congrArg some (by decide +kernel))
  have yc_BadKinds_BadText : W.exmOne K (.ref (He.ga K "BadText")) (.ref (He.ga K "BadKinds")) = some ((fun (n : Str) => n == "BadKinds") ("BadText" : Str)) := (aExm_ok (b := false) (T.x 54 _ rfl)).trans (congrArg some (by decide +kernel))
  have fc_place_BadKinds : W.findIn K (.ref (He.ga K "BadKinds")) "place" = some none := aN_ok (T.x 55 _ rfl)
  have fc_place_BadText : W.findIn K (.ref (He.ga K "BadText")) "place" = some none := aN_ok (T.x 56 _ rfl)
  have fc_error_BadKinds : W.findIn K (.ref (He.ga K "BadKinds")) "error" = some none := aN_ok (T.x 57 _ rfl)
  have fc_error_BadText : W.findIn K (.ref (He.ga K "BadText")) "error" = some none := aN_ok (T.x 58 _ rfl)
  have e_law : ∀ (s : Shared) (v : Value), BindsTo s fd_law ⟨[v], []⟩ [("_law_script", v)] := by
    obtain ⟨_, _, kV, _, _, _, _, _, _, rfl, _, _⟩ := F_law.ex
    exact fun s v => .of_eq rfl
  refine ⟨fd_law, e_law, fun base _ _ hT => ?_⟩
  have O_sides_text := ok_sides_text (P := PySem.Challenge.rw_twobricks_k76_bricks_read.prog) (w := w) (base := base) (mg := mg) F_sides_text (W.mg_none_of X G z_str)
  have O_is_integer := ok_is_integer (P := PySem.Challenge.rw_twobricks_k76_bricks_read.prog) (w := w) (base := base) (mg := mg) F_is_integer (W.mg_none_of X G z_isinstance) (W.mg_none_of X G z_bool) (W.mg_none_of X G z_int)
  have O_rests := ok_rests (P := PySem.Challenge.rw_twobricks_k76_bricks_read.prog) (w := w) (base := base) (mg := mg) F_rests (W.mg_none_of X G z_enumerate)
  have O_Ldeck := ok_Ldeck (P := PySem.Challenge.rw_twobricks_k76_bricks_read.prog) (w := w) (base := base) (mg := mg) F_Ldeck (W.mg_none_of X G z_abs) (W.mg_none_of X G z_len)
  have O_Ldraw := ok_Ldraw (P := PySem.Challenge.rw_twobricks_k76_bricks_read.prog) (w := w) (base := base) (mg := mg) F_Ldraw (W.mg_none_of X G z_int) (W.mg_none_of X G z_len)
  have O_Bricks_pair := ok_Bricks_pair (P := PySem.Challenge.rw_twobricks_k76_bricks_read.prog) (w := w) (base := base) (mg := mg) F_Bricks_pair ob_Bricks na_Bricks_both
  have O_kinds_text := ok_kinds_text (P := PySem.Challenge.rw_twobricks_k76_bricks_read.prog) (w := w) (base := base) (mg := mg) F_kinds_text O_sides_text ⟨W.mg_of X G a_sides_text, k_sides_text, b_sides_text⟩
  have O_sides_error := ok_sides_error (P := PySem.Challenge.rw_twobricks_k76_bricks_read.prog) (w := w) (base := base) (mg := mg) F_sides_error (W.mg_none_of X G z_enumerate) (W.mg_none_of X G z_len) (W.mg_none_of X G z_isinstance) (W.mg_none_of X G z_tuple) v_MAX_SIDE v_MAX_DIMS O_is_integer ⟨W.mg_of X G a_is_integer, k_is_integer, b_is_integer⟩
  have O_atoms := ok_atoms (P := PySem.Challenge.rw_twobricks_k76_bricks_read.prog) (w := w) (base := base) (mg := mg) F_atoms (W.mg_none_of X G z_sorted) (W.mg_none_of X G z_tuple) O_rests ⟨W.mg_of X G a_rests, k_rests, b_rests⟩
  have O_Lone := ok_Lone (P := PySem.Challenge.rw_twobricks_k76_bricks_read.prog) (w := w) (base := base) (mg := mg) F_Lone (W.mg_none_of X G z_len) O_Ldraw ⟨W.mg_of X G a_Ldraw, k_Ldraw, b_Ldraw⟩
  have O_kinds_error := ok_kinds_error (P := PySem.Challenge.rw_twobricks_k76_bricks_read.prog) (w := w) (base := base) (mg := mg) F_kinds_error (W.mg_none_of X G z_enumerate) (W.mg_none_of X G z_len) (W.mg_none_of X G z_isinstance) (W.mg_none_of X G z_tuple) v_MAX_KINDS O_sides_error ⟨W.mg_of X G a_sides_error, k_sides_error, b_sides_error⟩
  have O_number_at := ok_number_at (TL := [("BadKinds", (He.ga K "BadKinds")), ("BadText", (He.ga K "BadText"))]) (P := PySem.Challenge.rw_twobricks_k76_bricks_read.prog) (w := w) (base := base) (mg := mg) F_number_at (W.mg_none_of X G z_int) (W.mg_none_of X G z_len) v_MAX_SIDE v_FIGURES (xc_BadText base)
  have O_require_text := ok_require_text (TL := [("BadKinds", (He.ga K "BadKinds")), ("BadText", (He.ga K "BadText"))]) (P := PySem.Challenge.rw_twobricks_k76_bricks_read.prog) (w := w) (base := base) (mg := mg) F_require_text (W.mg_none_of X G z_isinstance) (W.mg_none_of X G z_str) (xc_BadText base)
  have O_Bricks___str__ := ok_Bricks___str__ (P := PySem.Challenge.rw_twobricks_k76_bricks_read.prog) (w := w) (base := base) (mg := mg) F_Bricks___str__ ob_Bricks na_Bricks_both O_kinds_text ⟨W.mg_of X G a_kinds_text, k_kinds_text, b_kinds_text⟩
  have O_Lodd := ok_Lodd (P := PySem.Challenge.rw_twobricks_k76_bricks_read.prog) (w := w) (base := base) (mg := mg) F_Lodd O_Lone ⟨W.mg_of X G a_Lone, k_Lone, b_Lone⟩
  have O_Lfar := ok_Lfar (P := PySem.Challenge.rw_twobricks_k76_bricks_read.prog) (w := w) (base := base) (mg := mg) F_Lfar O_Lone ⟨W.mg_of X G a_Lone, k_Lone, b_Lone⟩ O_Ldraw ⟨W.mg_of X G a_Ldraw, k_Ldraw, b_Ldraw⟩
  have O_pair_error := ok_pair_error (P := PySem.Challenge.rw_twobricks_k76_bricks_read.prog) (w := w) (base := base) (mg := mg) F_pair_error (W.mg_none_of X G z_len) O_kinds_error ⟨W.mg_of X G a_kinds_error, k_kinds_error, b_kinds_error⟩
  have O_sides_at := ok_sides_at (TL := [("BadKinds", (He.ga K "BadKinds")), ("BadText", (He.ga K "BadText"))]) (P := PySem.Challenge.rw_twobricks_k76_bricks_read.prog) (w := w) (base := base) (mg := mg) F_sides_at (W.mg_none_of X G z_tuple) (W.mg_none_of X G z_len) O_number_at ⟨W.mg_of X G a_number_at, k_number_at, b_number_at⟩
  have O_Lwide := ok_Lwide (P := PySem.Challenge.rw_twobricks_k76_bricks_read.prog) (w := w) (base := base) (mg := mg) F_Lwide (W.mg_none_of X G z_range) (W.mg_none_of X G z_tuple) O_Lfar ⟨W.mg_of X G a_Lfar, k_Lfar, b_Lfar⟩
  have O_Bricks_init := ok_Bricks_init (TL := [("BadKinds", (He.ga K "BadKinds")), ("BadText", (He.ga K "BadText"))]) (P := PySem.Challenge.rw_twobricks_k76_bricks_read.prog) (w := w) (base := base) (mg := mg) F_Bricks_init ob_Bricks na_Bricks_both na_Bricks_parts O_atoms ⟨W.mg_of X G a_atoms, k_atoms, b_atoms⟩ O_pair_error ⟨W.mg_of X G a_pair_error, k_pair_error, b_pair_error⟩ (xc_BadKinds base)
  have O_parse_kinds := ok_parse_kinds (TL := [("BadKinds", (He.ga K "BadKinds")), ("BadText", (He.ga K "BadText"))]) (P := PySem.Challenge.rw_twobricks_k76_bricks_read.prog) (w := w) (base := base) (mg := mg) F_parse_kinds (W.mg_none_of X G z_tuple) (W.mg_none_of X G z_len) v_MAX_KINDS v_MAX_DIMS O_sides_at ⟨W.mg_of X G a_sides_at, k_sides_at, b_sides_at⟩ O_require_text ⟨W.mg_of X G a_require_text, k_require_text, b_require_text⟩ (xc_BadText base)
  have O_Ldue := ok_Ldue (TL := [("BadKinds", (He.ga K "BadKinds")), ("BadText", (He.ga K "BadText"))]) (P := PySem.Challenge.rw_twobricks_k76_bricks_read.prog) (w := w) (base := base) (mg := mg) F_Ldue (W.mg_none_of X G z_len) O_parse_kinds ⟨W.mg_of X G a_parse_kinds, k_parse_kinds, b_parse_kinds⟩ (allT_of ⟨cf_BadKinds, cf_BadText, trivial⟩) ⟨_, W.mg_of X G ah_BadText, allT_of (p := fun n C => W.exmOne K (.ref C) _ = some ((fun (n : Str) => n == "BadText") n)) ⟨yc_BadText_BadKinds, yc_BadText_BadText, trivial⟩⟩ (allT_of ⟨fc_place_BadKinds, fc_place_BadText, trivial⟩)
  have O_Bricks_read := ok_Bricks_read (TL := [("BadKinds", (He.ga K "BadKinds")), ("BadText", (He.ga K "BadText"))]) (P := PySem.Challenge.rw_twobricks_k76_bricks_read.prog) (w := w) (base := base) (mg := mg) F_Bricks_read ob_Bricks O_Bricks_init ⟨mm_Bricks, a_Bricks_init, i_Bricks_init, mp_Bricks⟩ (W.mg_of X G ac_Bricks) b_Bricks_init O_pair_error ⟨W.mg_of X G a_pair_error, k_pair_error, b_pair_error⟩ O_parse_kinds ⟨W.mg_of X G a_parse_kinds, k_parse_kinds, b_parse_kinds⟩ (xc_BadKinds base)
  have O_Lread := ok_Lread (TL := [("BadKinds", (He.ga K "BadKinds")), ("BadText", (He.ga K "BadText"))]) (P := PySem.Challenge.rw_twobricks_k76_bricks_read.prog) (w := w) (base := base) (mg := mg) F_Lread ob_Bricks O_Bricks_pair ⟨a_Bricks_pair, pg_Bricks_pair, pt_Bricks_pair, pr_Bricks_pair⟩ b_Bricks_pair O_Bricks_read cr_Bricks_read cm_Bricks_read (W.mg_of X G ac_Bricks) b_Bricks_read (allT_of ⟨cf_BadKinds, cf_BadText, trivial⟩) ⟨_, W.mg_of X G ah_BadText, allT_of (p := fun n C => W.exmOne K (.ref C) _ = some ((fun (n : Str) => n == "BadText") n)) ⟨yc_BadText_BadKinds, yc_BadText_BadText, trivial⟩⟩ ⟨_, W.mg_of X G ah_BadKinds, allT_of (p := fun n C => W.exmOne K (.ref C) _ = some ((fun (n : Str) => n == "BadKinds") n)) ⟨yc_BadKinds_BadKinds, yc_BadKinds_BadText, trivial⟩⟩ (allT_of ⟨fc_place_BadKinds, fc_place_BadText, trivial⟩) (allT_of ⟨fc_error_BadKinds, fc_error_BadText, trivial⟩)
  have O_law := ok_law (TL := [("BadKinds", (He.ga K "BadKinds")), ("BadText", (He.ga K "BadText"))]) (P := PySem.Challenge.rw_twobricks_k76_bricks_read.prog) (w := w) (base := base) (mg := mg) F_law ob_Bricks (W.mg_none_of X G z_range) (W.mg_none_of X G z_repr) (W.mg_none_of X G z_len) (W.mg_none_of X G z_str) O_Lodd ⟨W.mg_of X G a_Lodd, k_Lodd, b_Lodd⟩ O_Lread ⟨W.mg_of X G a_Lread, k_Lread, b_Lread⟩ O_Ldue ⟨W.mg_of X G a_Ldue, k_Ldue, b_Ldue⟩ O_Ldraw ⟨W.mg_of X G a_Ldraw, k_Ldraw, b_Ldraw⟩ O_kinds_text ⟨W.mg_of X G a_kinds_text, k_kinds_text, b_kinds_text⟩ O_Bricks___str__ ⟨a_Bricks___str__, i_Bricks___str__, k_Bricks___str__⟩ b_Bricks___str__ O_Bricks_read cr_Bricks_read cm_Bricks_read (W.mg_of X G ac_Bricks) b_Bricks_read O_Lwide ⟨W.mg_of X G a_Lwide, k_Lwide, b_Lwide⟩ O_Ldeck ⟨W.mg_of X G a_Ldeck, k_Ldeck, b_Ldeck⟩
  exact O_law
end K76
open PySem PySem.W PyProof.Rows
set_option maxHeartbeats 0 in
theorem PySem.Challenge.cw_twobricks_k76_bricks_read_holds : PySem.Challenge.rw_twobricks_k76_bricks_read.Holds := by
  w_on; o_law
  refine HandSHeadRun.head_any (r := OpenLaw.row PySem.Challenge.rw_twobricks_k76_bricks_read) (q := view (OpenLaw.row PySem.Challenge.rw_twobricks_k76_bricks_read).prog [56]) (H := DL.hookF 1500 K76.defs K76.asks K76.tabs) (ob := fun s => DL.obsF 1500 K76.defs K76.asks K76.tabs (HandSHeadRun.getT s)) (M := 30000) (loose := K76.loose) (d := HandSHeadRun.topDef (OpenLaw.row PySem.Challenge.rw_twobricks_k76_bricks_read).prog 56) (kwd := []) DL.obsF_eq
    (by kernel_rfl) (fun s => by kernel_rfl) K76.run (by kernel_rfl) (by kernel_rfl) (by kernel_rfl) (by rfl) (by first | assumption | decide +kernel) (by decide +kernel) ⟨rfl, rfl, rfl, rfl, rfl, by decide +kernel⟩ ?hw ?hc
  case hw => w_witness2
  case hc =>
    refine DL.walkF (l := PySem.Challenge.rw_twobricks_k76_bricks_read) (n := 63) (k := 9) (x := "_law_script") (sp := fun K => (letI : DL.Tb := K76.tbK K; DL.liftSp K DL.spLaw)) rfl (by decide) (by kernel_rfl) ⟨rfl, by decide, by decide⟩ ?F (fun K H a ns hl hT hS => ?E)
    case F =>
      intro w mg fa h K X T G hmg0
      have e : (HandSHeadRun.topDef (OpenLaw.row PySem.Challenge.rw_twobricks_k76_bricks_read).prog 56).name = ("law" : PySem.Str) := by kernel_rfl
      rw [e] at hmg0
      exact K76.all_mk X G hmg0 T
    case E =>
      letI : DL.Tb := K76.tbK K
      exact DL.law_start hS

