import PyProof.Rows.All
import Wide.All
import OpenK.AllK
import Wide.FinOn
import HandS.ForSpec
import HandS.ForMost
import HandS.IsInst
import HandS.Deep
import HandS.Wide
import HandS.TupAny
import HandS.Zip
import HandS.Style
import HandS.Words
import HandS.Lambda
import HandS.RaiseMore
import HandS.SortInts
import HandS.Walk
import KE.GoesMore
import KE.GoesEnum
import HandS.TupMul
import PyProof.ReprRoads
import PyProof.Rows.IntBool
import KE.SortData
import KE.DataMinMax
import HandS.Conv
import PyProof.Rows.MatchSeqLen
import PyProof.RulesMatchSeq
import HandS.Dict
import KE.LtData
import KE.DataCmp
import PyProof.FactsAll.dict
import PyProof.NeData
import HandS.TryOnly
import PyProof.StrOps2
import HandS.SetKeys
import HandS.Star
import PyProof.AssignAttr
import HandS.TupLen
import PyProof.StrLawsRepr
import PySem.Challenge.RW_twobricks_k66_plans_for_boxes
set_option Elab.async false
set_option linter.all false
set_option maxRecDepth 100000
set_option maxHeartbeats 4000000
namespace DL
open PySem PySem.Spec PyProof.Rows L2

/-- the tables of code objects that lambdas are kept in: (table, the lambda's name) -/
class Tb where
  T : List (Addr × Str)
instance (priority := low) tb0 : Tb := ⟨[]⟩
/-- a number that repr does not show: it marks what stands for an object -/
def markI : Int := 2 ^ 2000
/-- an object of the class n with these attributes, as data that no other value stands for -/
abbrev objD (n : Str) (fs : List (Str × PyData)) : PyData := .dict ((.int markI, .str n) :: fs.map fun p => (.str p.1, p.2))
/-- the class named n is at C, and is none of the built-in ones -/
structure ObjK (K : PySem.W.Frag) (n : Str) (C : Addr) : Prop where
  at_ : PySem.W.nsIn K mainGlobals n = some (some (.ref C))
  ty : ∀ T ∈ ["int", "bool", "str", "tuple", "list", "dict"], PySem.W.kitOne K (.ref C) (.type T) = some false
  cl : Cls K C
  ha : PySem.W.findIn K (.ref C) "__class__" = some (some (.builtin "object.__class__"))
  hn : PySem.W.specialIn K (.builtin "object.__class__") "__get__" = some (some (.builtin "getset_descriptor.__get__"))
  tk : PySem.W.takesIn K (.builtin "object.__class__") = some true
  mr : PySem.W.mroIn K C (.type "object") = some true
/-- a dict's key of integers -/
def keyI (k : List Int) : List Key := k.map fun i => (Sum.inl i : Key)
/-- dicts that change no more, as data: with keys that are numbers, with keys that are tuples of numbers -/
abbrev dKD (kvs : List (Int × PyData)) : PyData := .dict ((.int markI, .bool false) :: kvs.map fun p => (.int p.1, p.2))
abbrev dTD (kvs : List (List Int × PyData)) : PyData := .dict ((.int markI, .bool true) :: kvs.map fun p => (.tuple (p.1.map PyData.int), p.2))
mutual
inductive Dn (K : PySem.W.Frag) (G : Hp) : V → PyData → Prop
  | non : Dn K G .non .none
  | bl (b : Bool) : Dn K G (.bl b) (.bool b)
  | int (i : Int) : Dn K G (.int i) (.int i)
  | str (x : Str) : Dn K G (.str x) (.str x)
  | lst {a : Addr} {xs : List V} {ds : List PyData} (h : G a = some (.lst xs)) (t : DnL K G xs ds) : Dn K G (.ref a) (.list ds)
  | tup {a : Addr} {xs : List V} {ds : List PyData} (h : G a = some (.tup xs)) (t : DnL K G xs ds) : Dn K G (.ref a) (.tuple ds)
  | dic {a : Addr} (h : G a = some (.dK [])) (n : a ≠ sysModules) : Dn K G (.ref a) (.dict [])
  | ob {a C dx : Addr} {n : Str} {ws : List (Str × V)} {fs : List (Str × PyData)} (h : G a = some (.ins C dx ws)) (k : ObjK K n C) (e : ws.map (·.1) = fs.map (·.1)) (t : DnL K G (ws.map (·.2)) (fs.map (·.2))) : Dn K G (.ref a) (.dict ((.int markI, .str n) :: fs.map fun p => (.str p.1, p.2)))
  | fK {a : Addr} {o : Obj} {ws : List (Key × V)} {kvs : List (Int × PyData)} (h : G a = some (.frz o (.dK ws))) (e : ws.map (·.1) = kvs.map fun p => (Sum.inl p.1 : Key)) (t : DnL K G (ws.map (·.2)) (kvs.map (·.2))) : Dn K G (.ref a) (.dict ((.int markI, .bool false) :: kvs.map fun p => (.int p.1, p.2)))
  | fT {a : Addr} {o : Obj} {ws : List (List Key × V)} {kvs : List (List Int × PyData)} (h : G a = some (.frz o (.dT ws))) (e : ws.map (·.1) = kvs.map fun p => keyI p.1) (t : DnL K G (ws.map (·.2)) (kvs.map (·.2))) : Dn K G (.ref a) (.dict ((.int markI, .bool true) :: kvs.map fun p => (.tuple (p.1.map PyData.int), p.2)))
inductive DnL (K : PySem.W.Frag) (G : Hp) : List V → List PyData → Prop
  | nil : DnL K G [] []
  | cons {v : V} {vs : List V} {d : PyData} {ds : List PyData} (h : Dn K G v d) (t : DnL K G vs ds) : DnL K G (v :: vs) (d :: ds)
end
theorem sqT_mono {K : PySem.W.Frag} {G H : Hp} {a : Addr} {xs : List V} (s : Same G H) (h : SqT K G a xs) : SqT K H a xs := by
  rcases h with (h | ⟨o, h⟩) | h
  · exact .inl (.inl (s _ _ h))
  · exact .inl (.inr ⟨o, s _ _ h⟩)
  · exact .inr h
mutual
theorem Dn.mono' {K : PySem.W.Frag} {G H : Hp} (s : Same G H) : ∀ {v : V} {d : PyData}, Dn K G v d → Dn K H v d
  | _, _, .non => .non
  | _, _, .bl b => .bl b
  | _, _, .int i => .int i
  | _, _, .str x => .str x
  | _, _, .lst h t => .lst (s _ _ h) (DnL.mono' s t)
  | _, _, .tup h t => .tup (s _ _ h) (DnL.mono' s t)
  | _, _, .dic h n => .dic (s _ _ h) n
  | _, _, .ob h k e t => .ob (s _ _ h) k e (DnL.mono' s t)
  | _, _, .fK h e t => .fK (s _ _ h) e (DnL.mono' s t)
  | _, _, .fT h e t => .fT (s _ _ h) e (DnL.mono' s t)
theorem DnL.mono' {K : PySem.W.Frag} {G H : Hp} (s : Same G H) : ∀ {vs : List V} {ds : List PyData}, DnL K G vs ds → DnL K H vs ds
  | _, _, .nil => .nil
  | _, _, .cons a b => .cons (Dn.mono' s a) (DnL.mono' s b)
end
theorem Dn.mono {K : PySem.W.Frag} {G H : Hp} (s : Same G H) {v : V} (d : PyData) (h : Dn K G v d) : Dn K H v d := Dn.mono' s h
theorem DnL.mono {K : PySem.W.Frag} {G H : Hp} (s : Same G H) {vs : List V} (ds : List PyData) (h : DnL K G vs ds) : DnL K H vs ds := DnL.mono' s h
section
variable {K : PySem.W.Frag} {G : Hp}
theorem DnL.len : ∀ {vs : List V} {ds : List PyData}, DnL K G vs ds → vs.length = ds.length
  | _, [], h => by cases h; rfl
  | _, d :: ds, h => by cases h with | cons a b => simp [DnL.len b]
theorem DnL.get : ∀ {vs : List V} {ds : List PyData} {i : Nat} {d : PyData}, DnL K G vs ds → ds[i]? = some d → ∃ v, vs[i]? = some v ∧ Dn K G v d
  | _, [], _, _, h, e => by simp at e
  | _, d :: ds, 0, _, h, e => by
    cases h with
    | cons a b => simp at e; subst e; exact ⟨_, rfl, a⟩
  | _, d :: ds, i + 1, x, h, e => by
    cases h with
    | cons a b =>
      obtain ⟨v, h1, h2⟩ := DnL.get (i := i) b (by simpa using e)
      exact ⟨v, by simpa using h1, h2⟩
theorem DnL.app : ∀ {vs ws : List V} {ds es : List PyData}, DnL K G vs ds → DnL K G ws es → DnL K G (vs ++ ws) (ds ++ es)
  | _, _, [], _, h, h2 => by cases h; exact h2
  | _, _, d :: ds, _, h, h2 => by cases h with | cons a b => exact .cons a (DnL.app b h2)
theorem DnL.take : ∀ {vs : List V} {ds : List PyData} (n : Nat), DnL K G vs ds → DnL K G (vs.take n) (ds.take n)
  | _, _, 0, _ => by simp; exact .nil
  | _, [], n + 1, h => by cases h; simp; exact .nil
  | _, d :: ds, n + 1, h => by cases h with | cons a b => exact .cons a (DnL.take n b)
theorem DnL.drop : ∀ {vs : List V} {ds : List PyData} (n : Nat), DnL K G vs ds → DnL K G (vs.drop n) (ds.drop n)
  | _, _, 0, h => by simpa using h
  | _, [], n + 1, h => by cases h; simp; exact .nil
  | _, d :: ds, n + 1, h => by cases h with | cons a b => exact DnL.drop n b
theorem DnL.set {v : V} {d : PyData} (h : Dn K G v d) : ∀ {vs : List V} {ds : List PyData} (i : Nat), DnL K G vs ds → DnL K G (vs.set i v) (ds.set i d)
  | _, [], _, t => by cases t; exact .nil
  | _, _ :: _, 0, t => by cases t with | cons a b => exact .cons h b
  | _, _ :: _, i + 1, t => by cases t with | cons a b => exact .cons a (DnL.set h i b)
theorem DnL.dropLast {vs : List V} {ds : List PyData} (h : DnL K G vs ds) : DnL K G vs.dropLast ds.dropLast := by
  rw [List.dropLast_eq_take, List.dropLast_eq_take, h.len]
  exact h.take _
theorem DnL.erase : ∀ {vs : List V} {ds : List PyData} (i : Nat), DnL K G vs ds → DnL K G (vs.eraseIdx i) (ds.eraseIdx i)
  | _, [], _, t => by cases t; exact .nil
  | _, _ :: _, 0, t => by cases t with | cons a b => exact b
  | _, _ :: _, i + 1, t => by cases t with | cons a b => exact .cons a (DnL.erase i b)
theorem DnL.ints : ∀ (ns : List Int), DnL K G (ns.map V.int) (ns.map PyData.int)
  | [] => .nil
  | n :: ns => .cons (.int n) (DnL.ints ns)
theorem DnL.toInts : ∀ {vs : List V} {ns : List Int}, DnL K G vs (ns.map PyData.int) → vs = ns.map V.int
  | _, [], h => by cases h; rfl
  | _, n :: ns, h => by
    cases h with
    | cons a b => cases a; rw [DnL.toInts b]; rfl
theorem DnL.toBools : ∀ {vs : List V} {ns : List Bool}, DnL K G vs (ns.map PyData.bool) → vs = ns.map V.bl
  | _, [], h => by cases h; rfl
  | _, n :: ns, h => by
    cases h with
    | cons a b => cases a; rw [DnL.toBools b]; rfl
end

/-- more of what may be one's own: a dict with keys that are numbers; a dict of lists, all one's own; an object with one field that holds a list of one's own -/
inductive GX where
  | oi (a : Addr) (kvs : List (Int × PyData))
  | og (a : Addr) (gs : List (Int × Addr × List PyData))
  | bu (a l : Addr) (n f : Str) (xs : List PyData)
  | b0 (a : Addr) (n : Str)
def GX.fp : GX → List Addr
  | .oi a _ => [a]
  | .og a gs => a :: gs.map (·.2.1)
  | .bu a l _ _ _ => [a, l]
  | .b0 a _ => [a]
def GX.hd : GX → Addr
  | .oi a _ => a
  | .og a _ => a
  | .bu a _ _ _ _ => a
  | .b0 a _ => a
def GX.Ok (K : PySem.W.Frag) (G H : Hp) : GX → Prop
  | .oi a kvs => ∃ ws, H a = some (.dK ws) ∧ ws.map (·.1) = kvs.map (fun p => (Sum.inl p.1 : Key)) ∧ DnL K G (ws.map (·.2)) (kvs.map (·.2))
  | .og a gs => (a :: gs.map (·.2.1)).Nodup ∧ H a = some (.dK (gs.map fun g => ((Sum.inl g.1 : Key), V.ref g.2.1))) ∧ ∀ g ∈ gs, ∃ vs, H g.2.1 = some (.lst vs) ∧ DnL K G vs g.2.2
  | .bu a l n f xs => a ≠ l ∧ ∃ C dx vs, H a = some (.ins C dx [(f, .ref l)]) ∧ ObjK K n C ∧ H l = some (.lst vs) ∧ DnL K G vs xs
  | .b0 a n => ∃ C dx, H a = some (.ins C dx []) ∧ ObjK K n C
/-- what a slot holds: nothing; data that never changes any more; a list of one's own (its address, its items); the deck -/
inductive Cell where
  | em
  | d (x : PyData)
  | ol (a : Addr) (xs : List PyData)
  | dk (a b c : Addr)
  | scr (a : Addr) (ns : List Int)
  | dx (a b c : Addr) (xs : List Int) (n : Int) (ys : List Int)
  | od (a : Addr) (kvs : List (List Int × PyData))
  | xc (a : Addr) (cls : Value) (d : Option Addr) (x : PyData)
  | ob (a : Addr) (n : Str) (fs : List (Str × PyData))
  | fv (a : Addr) (m : Hp)
  | gx (t : GX)
def Cell.fp : Cell → List Addr
  | .ol a _ => [a]
  | .dk a b c => [a, b, c]
  | .dx a b c _ _ _ => [a, b, c]
  | .od a _ => [a]
  | .ob a _ _ => [a]
  | .gx t => t.fp
  | _ => []
/-- a dict whose keys are tuples of integers -/
def DnK (K : PySem.W.Frag) (G : Hp) (ws : List (List Key × V)) (kvs : List (List Int × PyData)) : Prop := ws.map (·.1) = kvs.map (fun p => keyI p.1) ∧ DnL K G (ws.map (·.2)) (kvs.map (·.2))
/-- the deck: the great numbers that are left, all numbers, the count -/
def DeckOk (H : Hp) (a b c : Addr) : Prop := a ≠ b ∧ a ≠ c ∧ b ≠ c ∧ ∃ (n : Int) (xs ys : List Int), H a = some (.lst [.ref b, .ref c, .int n]) ∧ H b = some (.lst (xs.map V.int)) ∧ H c = some (.lst (ys.map V.int)) ∧ ys ≠ [] ∧ ∀ x ∈ xs, 0 ≤ x
def excD (n : Str) (fs : List (Str × PyData)) : PyData := .dict [(.str n, .dict (fs.map fun p => (.str p.1, p.2)))]
/-- an exception's class and dict stand for it -/
def ExcAt (K : PySem.W.Frag) (G : Hp) (cls : Value) (d : Option Addr) (x : PyData) : Prop := ∃ (n : Str) (C : Addr) (fs : List (Str × PyData)), x = excD n fs ∧ cls = .ref C ∧ (PySem.W.clsIn K C).map (·.name) = some n ∧
  ((∃ (dd : Addr) (ws : List (Str × V)), d = some dd ∧ G dd = some (.xd ws) ∧ ws.map (·.1) = fs.map (·.1) ∧ DnL K G (ws.map (·.2)) (fs.map (·.2))) ∨ (fs = [] ∧ d = none))
theorem ExcAt.mono {K : PySem.W.Frag} {G G' : Hp} {cls : Value} {d : Option Addr} {x : PyData} (s : Same G G') (h : ExcAt K G cls d x) : ExcAt K G' cls d x := by
  obtain ⟨n, C, fs, h1, h2, h3, h4⟩ := h
  refine ⟨n, C, fs, h1, h2, h3, ?_⟩
  rcases h4 with ⟨dd, ws, q1, q2, q3, q4⟩ | q
  · exact .inl ⟨dd, ws, q1, s _ _ q2, q3, q4.mono s⟩
  · exact .inr q
def CellOk (K : PySem.W.Frag) (G H : Hp) : Cell → Option V → Prop
  | .em, _ => True
  | .d x, o => ∃ v, o = some v ∧ Dn K G v x
  | .ol a xs, o => o = some (.ref a) ∧ ∃ vs, H a = some (.lst vs) ∧ DnL K G vs xs
  | .dk a b c, o => o = some (.ref a) ∧ DeckOk H a b c
  | .scr a ns, o => o = some (.ref a) ∧ SqL K G a (ns.map V.int)
  | .od a kvs, o => o = some (.ref a) ∧ ∃ ws, H a = some (.dT ws) ∧ DnK K G ws kvs
  | .xc a cls d x, o => o = some (.ref a) ∧ ExcAt K G cls d x
  | .ob a n fs, o => o = some (.ref a) ∧ ∃ C dx ws, H a = some (.ins C dx ws) ∧ ObjK K n C ∧ ws.map (·.1) = fs.map (·.1) ∧ DnL K G (ws.map (·.2)) (fs.map (·.2))
  | .fv a m, o => o = some (.ref a) ∧ Same m G
  | .gx t, o => o = some (.ref t.hd) ∧ t.Ok K G H
  | .dx a b c xs n ys, o => o = some (.ref a) ∧ a ≠ b ∧ a ≠ c ∧ b ≠ c ∧ H a = some (.lst [.ref b, .ref c, .int n]) ∧ H b = some (.lst (xs.map V.int)) ∧ H c = some (.lst (ys.map V.int))

abbrev DS := List Cell
/-- what is neither a table nor a code object -/
def notTE (x : HO) : Prop := (∀ ps, x ≠ .tbl ps) ∧ ∀ f, x ≠ .ext f
theorem notTE_lst {xs : List V} : notTE (.lst xs) := ⟨fun _ z => (nomatch z), fun _ z => (nomatch z)⟩
theorem tabs_upd {T : List (Addr × Str)} {H : Hp} {p : Addr} {o : HO} (h : LamX.Tabs T H) (hp : ∀ x, H p = some x → notTE x) : LamX.Tabs T (upd H p o) := fun q hq => by
  obtain ⟨ps, h1, h2, h3⟩ := h q hq
  refine ⟨ps, ?_, h2, fun pos cv hc => ?_⟩
  · rw [upd_ne (fun z => (hp _ (by rw [← z]; exact h1)).1 ps rfl)]; exact h1
  · obtain ⟨c, e1, e2⟩ := h3 pos cv hc
    exact ⟨c, e1, by rw [upd_ne (fun z => (hp _ (by rw [← z]; exact e2)).2 _ rfl)]; exact e2⟩
theorem tabs_new {T : List (Addr × Str)} {H : Hp} {p : Addr} {o : HO} (h : LamX.Tabs T H) (hp : H p = none) : LamX.Tabs T (upd H p o) := tabs_upd h fun x e => by rw [hp] at e; cases e
/-- what is kept for others is no table and no code object, what never changes is no table -/
structure NT (B G : Hp) : Prop where
  b : ∀ a o, B a = some o → notTE o
  g : ∀ a o, G a = some o → ∀ ps, o ≠ .tbl ps
variable [Tb]
structure TbOk (B G H : Hp) : Prop where
  t : LamX.Tabs Tb.T H
  n : NT B G
structure Rel (K : PySem.W.Frag) (B G : Hp) (δ : DS) (σ : L2.St) (H : Hp) : Prop where
  len : σ.length = δ.length
  sg : Same G H
  sb : Same B H
  dj : ∀ a, G a = none ∨ B a = none
  ok : ∀ (i : Nat) (c : Cell) (o : Option V), δ[i]? = some c → σ[i]? = some o → CellOk K G H c o
  ap : ∀ (i j : Nat) (c c' : Cell) (a : Addr), δ[i]? = some c → δ[j]? = some c' → a ∈ c.fp → a ∈ c'.fp → i = j
  fr : ∀ (i : Nat) (c : Cell) (a : Addr), δ[i]? = some c → a ∈ c.fp → G a = none ∧ B a = none
  tt : TbOk B G H

omit [Tb] in
theorem NT.updG {B G : Hp} {p : Addr} {o : HO} (n : NT B G) (h : ∀ ps, o ≠ .tbl ps) : NT B (upd G p o) := ⟨n.b, fun a x e => by
  by_cases q : a = p
  · subst q; rw [upd_same] at e; cases e; exact h
  · rw [upd_ne q] at e; exact n.g a x e⟩
omit [Tb] in
theorem NT.updB {B G : Hp} {p : Addr} {o : HO} (n : NT B G) (h : notTE o) : NT (upd B p o) G := ⟨fun a x e => by
  by_cases q : a = p
  · subst q; rw [upd_same] at e; cases e; exact h
  · rw [upd_ne q] at e; exact n.b a x e, n.g⟩
omit [Tb] in
theorem NT.lessB {B B0 G : Hp} (n : NT B G) (h : ∀ a o, B0 a = some o → B a = some o) : NT B0 G := ⟨fun a x e => n.b a x (h a x e), n.g⟩
section
variable {K : PySem.W.Frag} {B G G' H H' : Hp} {δ : DS} {σ : L2.St} {p a : Addr} {o : HO} {i : Nat} {c : Cell}
theorem same_new (h : H p = none) : Same H (upd H p o) := fun b x e => by
  rw [upd_ne (ne_of_none e h)]; exact e
theorem Rel.at (R : Rel K B G δ σ H) (h : δ[i]? = some c) : ∃ o, σ[i]? = some o ∧ CellOk K G H c o := by
  have hi : i < δ.length := (List.getElem?_eq_some_iff.mp h).1
  have hs : i < σ.length := by rw [R.len]; exact hi
  exact ⟨σ[i], List.getElem?_eq_getElem hs, R.ok i c _ h (List.getElem?_eq_getElem hs)⟩
theorem GX.tr {t : GX} (ok : t.Ok K G H) (hp : p ∈ t.fp) : ∃ o, H p = some o ∧ (∀ ps, o ≠ .tbl ps) ∧ ∀ f, o ≠ .ext f := by
  cases t with
  | oi a kvs =>
    obtain ⟨ws, e, _⟩ := ok
    rw [List.mem_singleton.mp hp]
    exact ⟨_, e, fun _ z => (nomatch z), fun _ z => (nomatch z)⟩
  | og a gs =>
    obtain ⟨_, e, h⟩ := ok
    rcases List.mem_cons.mp hp with rfl | hp
    · exact ⟨_, e, fun _ z => (nomatch z), fun _ z => (nomatch z)⟩
    · obtain ⟨g, hg, rfl⟩ := List.mem_map.mp hp
      obtain ⟨vs, e2, _⟩ := h g hg
      exact ⟨_, e2, fun _ z => (nomatch z), fun _ z => (nomatch z)⟩
  | bu a l n f xs =>
    obtain ⟨_, C, dx, vs, e, _, e2, _⟩ := ok
    rcases List.mem_cons.mp hp with rfl | hp
    · exact ⟨_, e, fun _ z => (nomatch z), fun _ z => (nomatch z)⟩
    · rw [List.mem_singleton.mp hp]
      exact ⟨_, e2, fun _ z => (nomatch z), fun _ z => (nomatch z)⟩
  | b0 a n =>
    obtain ⟨C, dx, e, _⟩ := ok
    rw [List.mem_singleton.mp hp]
    exact ⟨_, e, fun _ z => (nomatch z), fun _ z => (nomatch z)⟩
theorem GX.stay {t : GX} (ok : t.Ok K G H) (sg : Same G G') (hk : ∀ b ∈ t.fp, H' b = H b) : t.Ok K G' H' := by
  cases t with
  | oi a kvs =>
    obtain ⟨ws, e, k, d⟩ := ok
    exact ⟨ws, by rw [hk a (by simp [GX.fp])]; exact e, k, d.mono sg⟩
  | og a gs =>
    obtain ⟨n, e, h⟩ := ok
    refine ⟨n, by rw [hk a (by simp [GX.fp])]; exact e, fun g hg => ?_⟩
    obtain ⟨vs, e2, d⟩ := h g hg
    exact ⟨vs, by rw [hk _ (List.mem_cons_of_mem _ (List.mem_map.mpr ⟨g, hg, rfl⟩))]; exact e2, d.mono sg⟩
  | bu a l n f xs =>
    obtain ⟨n1, C, dx, vs, e, k, e2, d⟩ := ok
    exact ⟨n1, C, dx, vs, by rw [hk a (by simp [GX.fp])]; exact e, k, by rw [hk l (by simp [GX.fp])]; exact e2, d.mono sg⟩
  | b0 a n =>
    obtain ⟨C, dx, e, k⟩ := ok
    exact ⟨C, dx, by rw [hk a (by simp [GX.fp])]; exact e, k⟩
theorem cell_tracked (ok : CellOk K G H c (some (.ref a))) (hc : p ∈ c.fp) : ∃ o, H p = some o := by
  cases c with
  | em => cases hc
  | d x => cases hc
  | ol a xs =>
    obtain ⟨_, vs, e, _⟩ := ok
    rw [List.mem_singleton.mp hc]; exact ⟨_, e⟩
  | dk a b c =>
    obtain ⟨_, _, _, _, n, xs, ys, e1, e2, e3, _⟩ := ok
    simp only [Cell.fp, List.mem_cons, List.not_mem_nil, or_false] at hc
    rcases hc with rfl | rfl | rfl
    · exact ⟨_, e1⟩
    · exact ⟨_, e2⟩
    · exact ⟨_, e3⟩
  | scr a ns => cases hc
  | xc a cls d x => cases hc
  | fv a m => cases hc
  | gx t => obtain ⟨o, e, _⟩ := GX.tr ok.2 hc; exact ⟨o, e⟩
  | ob a n fs =>
    obtain ⟨_, C, dx, ws, e, _⟩ := ok
    rw [List.mem_singleton.mp hc]; exact ⟨_, e⟩
  | od a kvs =>
    obtain ⟨_, ws, e, _⟩ := ok
    rw [List.mem_singleton.mp hc]; exact ⟨_, e⟩
  | dx a b c xs n ys =>
    obtain ⟨_, _, _, _, e1, e2, e3⟩ := ok
    simp only [Cell.fp, List.mem_cons, List.not_mem_nil, or_false] at hc
    rcases hc with rfl | rfl | rfl
    · exact ⟨_, e1⟩
    · exact ⟨_, e2⟩
    · exact ⟨_, e3⟩
theorem cell_tr {o : Option V} (ok : CellOk K G H c o) (hc : p ∈ c.fp) : ∃ o, H p = some o := by
  cases c with
  | em => cases hc
  | d x => cases hc
  | ol a xs => exact cell_tracked (a := a) (by obtain ⟨e, r⟩ := ok; exact ⟨rfl, r⟩) hc
  | dk a b c => exact cell_tracked (K := K) (G := G) (a := a) (by obtain ⟨e, r⟩ := ok; exact ⟨rfl, r⟩) hc
  | scr a ns => cases hc
  | xc a cls d x => cases hc
  | fv a m => cases hc
  | gx t => obtain ⟨o, e, _⟩ := GX.tr ok.2 hc; exact ⟨o, e⟩
  | ob a n fs => exact cell_tracked (K := K) (G := G) (a := a) (by obtain ⟨e, r⟩ := ok; exact ⟨rfl, r⟩) hc
  | od a kvs => exact cell_tracked (K := K) (G := G) (a := a) (by obtain ⟨e, r⟩ := ok; exact ⟨rfl, r⟩) hc
  | dx a b c xs n ys => exact cell_tracked (K := K) (G := G) (a := a) (by obtain ⟨e, r⟩ := ok; exact ⟨rfl, r⟩) hc
theorem notTE_dT {ws : List (List Key × V)} : notTE (.dT ws) := ⟨fun _ z => (nomatch z), fun _ z => (nomatch z)⟩
theorem notTE_ins {C dx : Addr} {ws : List (Str × V)} : notTE (.ins C dx ws) := ⟨fun _ z => (nomatch z), fun _ z => (nomatch z)⟩
theorem cell_te {c : Cell} {p : Addr} {o : Option V} (ok : CellOk K G H c o) (hc : p ∈ c.fp) : ∀ x, H p = some x → notTE x := by
  have one : ∀ {y : HO}, H p = some y → notTE y → ∀ x, H p = some x → notTE x := fun {y} e h x e2 => by
    rw [e] at e2
    cases e2
    exact h
  cases c with
  | em => cases hc
  | d x => cases hc
  | ol a xs =>
    obtain ⟨_, vs, e, _⟩ := ok
    rw [List.mem_singleton.mp hc] at one ⊢
    exact one e notTE_lst
  | dk a b c =>
    obtain ⟨_, _, _, _, n, xs, ys, e1, e2, e3, _⟩ := ok
    simp only [Cell.fp, List.mem_cons, List.not_mem_nil, or_false] at hc
    rcases hc with rfl | rfl | rfl
    · exact one e1 notTE_lst
    · exact one e2 notTE_lst
    · exact one e3 notTE_lst
  | scr a ns => cases hc
  | xc a cls d x => cases hc
  | fv a m => cases hc
  | gx t => obtain ⟨o, e, n1, n2⟩ := GX.tr ok.2 hc; exact one e ⟨n1, n2⟩
  | ob a n fs =>
    obtain ⟨_, C, dx, ws, e, _⟩ := ok
    rw [List.mem_singleton.mp hc] at one ⊢
    exact one e notTE_ins
  | od a kvs =>
    obtain ⟨_, ws, e, _⟩ := ok
    rw [List.mem_singleton.mp hc] at one ⊢
    exact one e notTE_dT
  | dx a b c xs n ys =>
    obtain ⟨_, _, _, _, e1, e2, e3⟩ := ok
    simp only [Cell.fp, List.mem_cons, List.not_mem_nil, or_false] at hc
    rcases hc with rfl | rfl | rfl
    · exact one e1 notTE_lst
    · exact one e2 notTE_lst
    · exact one e3 notTE_lst
/-- a cell's content goes along with a change that spares its own objects -/
theorem CellOk.stay {o : Option V} (ok : CellOk K G H c o) (sg : Same G G') (hk : ∀ b ∈ c.fp, H' b = H b) : CellOk K G' H' c o := by
  cases c with
  | em => trivial
  | d x => obtain ⟨v, e, h⟩ := ok; exact ⟨v, e, h.mono sg⟩
  | ol a xs =>
    obtain ⟨e, vs, h, t⟩ := ok
    exact ⟨e, vs, by rw [hk a (by simp [Cell.fp])]; exact h, t.mono sg⟩
  | dk a b c =>
    obtain ⟨e, h1, h2, h3, n, xs, ys, e1, e2, e3, r⟩ := ok
    exact ⟨e, h1, h2, h3, n, xs, ys, by rw [hk a (by simp [Cell.fp])]; exact e1, by rw [hk b (by simp [Cell.fp])]; exact e2, by rw [hk c (by simp [Cell.fp])]; exact e3, r⟩
  | scr a ns => exact ⟨ok.1, sg.seq ok.2⟩
  | fv a m => exact ⟨ok.1, ok.2.trans sg⟩
  | gx t => exact ⟨ok.1, GX.stay ok.2 sg hk⟩
  | xc a cls d x => exact ⟨ok.1, ok.2.mono sg⟩
  | ob a n fs =>
    obtain ⟨e, C, dx, ws, h, k, e2, t⟩ := ok
    exact ⟨e, C, dx, ws, by rw [hk a (by simp [Cell.fp])]; exact h, k, e2, t.mono sg⟩
  | od a kvs =>
    obtain ⟨e, ws, h, t1, t2⟩ := ok
    exact ⟨e, ws, by rw [hk a (by simp [Cell.fp])]; exact h, t1, t2.mono sg⟩
  | dx a b c xs n ys =>
    obtain ⟨e, h1, h2, h3, e1, e2, e3⟩ := ok
    exact ⟨e, h1, h2, h3, by rw [hk a (by simp [Cell.fp])]; exact e1, by rw [hk b (by simp [Cell.fp])]; exact e2, by rw [hk c (by simp [Cell.fp])]; exact e3⟩
theorem Rel.tr (R : Rel K B G δ σ H) (h : δ[i]? = some c) (hc : p ∈ c.fp) : ∃ o, H p = some o := by
  obtain ⟨o, _, ok⟩ := R.at h
  exact cell_tr ok hc
theorem Rel.freeG (R : Rel K B G δ σ H) (h : H p = none) : G p = none := R.sg.free h
theorem Rel.freeB (R : Rel K B G δ σ H) (h : H p = none) : B p = none := R.sb.free h
/-- a new object, laid to what never changes -/
theorem Rel.laid (R : Rel K B G δ σ H) (h : H p = none) (nt : ∀ ps, o ≠ .tbl ps := by exact fun _ z => (nomatch z)) : Rel K B (upd G p o) δ σ (upd H p o) ∧ Same G (upd G p o) := by
  have sG : Same G (upd G p o) := same_new (R.freeG h)
  refine ⟨⟨R.len, fun b x e => ?_, R.sb.trans (same_new h), fun b => ?_, fun i c w e1 e2 => ?_, R.ap, fun i c b e hb => ?_, ⟨tabs_new R.tt.t h, R.tt.n.updG nt⟩⟩, sG⟩
  · by_cases hb : b = p
    · subst hb; rw [upd_same] at e ⊢; exact e
    · rw [upd_ne hb] at e ⊢; exact R.sg _ _ e
  · by_cases hb : b = p
    · subst hb; exact .inr (R.freeB h)
    · rw [upd_ne hb]; exact R.dj b
  · refine (R.ok i c w e1 e2).stay sG fun b hb => ?_
    obtain ⟨x, ex⟩ := R.tr e1 hb
    exact upd_ne (ne_of_none ex h)
  · obtain ⟨x, ex⟩ := R.tr e hb
    obtain ⟨f1, f2⟩ := R.fr i c b e hb
    exact ⟨by rw [upd_ne (ne_of_none ex h)]; exact f1, f2⟩
/-- a new object that isn't looked at yet -/
theorem Rel.grow (R : Rel K B G δ σ H) (h : H p = none) : Rel K B G δ σ (upd H p o) := by
  refine ⟨R.len, R.sg.trans (same_new h), R.sb.trans (same_new h), R.dj, fun i c w e1 e2 => ?_, R.ap, R.fr, ⟨tabs_new R.tt.t h, R.tt.n⟩⟩
  refine (R.ok i c w e1 e2).stay (Same.refl _) fun b hb => ?_
  obtain ⟨x, ex⟩ := R.tr e1 hb
  exact upd_ne (ne_of_none ex h)
/-- .. it is set among what is kept for others -/
theorem Rel.growB (R : Rel K B G δ σ H) (h : H p = none) (nt : notTE o := by exact ⟨fun _ z => (nomatch z), fun _ z => (nomatch z)⟩) : Rel K (upd B p o) G δ σ (upd H p o) := by
  refine ⟨R.len, R.sg.trans (same_new h), fun b x e => ?_, fun b => ?_, fun i c w e1 e2 => ?_, R.ap, fun i c b e hb => ?_, ⟨tabs_new R.tt.t h, R.tt.n.updB nt⟩⟩
  · by_cases hb : b = p
    · subst hb; rw [upd_same] at e ⊢; exact e
    · rw [upd_ne hb] at e ⊢; exact R.sb _ _ e
  · by_cases hb : b = p
    · subst hb; exact .inl (R.freeG h)
    · rw [upd_ne hb]; exact R.dj b
  · refine (R.ok i c w e1 e2).stay (Same.refl _) fun b hb => ?_
    obtain ⟨x, ex⟩ := R.tr e1 hb
    exact upd_ne (ne_of_none ex h)
  · obtain ⟨x, ex⟩ := R.tr e hb
    obtain ⟨f1, f2⟩ := R.fr i c b e hb
    exact ⟨f1, by rw [upd_ne (ne_of_none ex h)]; exact f2⟩
/-- one of those kept for others is changed (by whom it belongs to) -/
theorem Rel.putB (R : Rel K B G δ σ H) {u : HO} (h : B p = some u) (hu : notTE u) (nt : notTE o := by exact ⟨fun _ z => (nomatch z), fun _ z => (nomatch z)⟩) : Rel K (upd B p o) G δ σ (upd H p o) := by
  have gp : G p = none := by
    rcases R.dj p with e | e
    · exact e
    · rw [h] at e; cases e
  refine ⟨R.len, fun b x e => ?_, fun b x e => ?_, fun b => ?_, fun i c w e1 e2 => ?_, R.ap, fun i c b e hb => ?_, ⟨tabs_upd R.tt.t fun x e => by rw [R.sb _ _ h] at e; cases e; exact hu, R.tt.n.updB nt⟩⟩
  · have hb : b ≠ p := fun z => by rw [z, gp] at e; cases e
    rw [upd_ne hb]; exact R.sg _ _ e
  · by_cases hb : b = p
    · subst hb; rw [upd_same] at e ⊢; exact e
    · rw [upd_ne hb] at e ⊢; exact R.sb _ _ e
  · by_cases hb : b = p
    · subst hb; exact .inl gp
    · rw [upd_ne hb]; exact R.dj b
  · refine (R.ok i c w e1 e2).stay (Same.refl _) fun b hb => upd_ne fun z => ?_
    have := (R.fr i c b e1 hb).2
    rw [z, h] at this; cases this
  · obtain ⟨f1, f2⟩ := R.fr i c b e hb
    refine ⟨f1, ?_⟩
    rw [upd_ne (fun z => by rw [z, h] at f2; cases f2)]; exact f2
/-- what was kept for others and hangs on nobody is now looked at: frozen -/
theorem Rel.takeB (R : Rel K B G δ σ H) {B0 : Hp} (h0 : B0 p = none) (hs : ∀ b, b ≠ p → B0 b = B b) {u : HO} (h : B p = some u) : Rel K B0 (upd G p u) δ σ H ∧ Same G (upd G p u) := by
  have gp : G p = none := by
    rcases R.dj p with e | e
    · exact e
    · rw [h] at e; cases e
  have sG : Same G (upd G p u) := same_new gp
  refine ⟨⟨R.len, fun b x e => ?_, fun b x e => ?_, fun b => ?_, fun i c w e1 e2 => (R.ok i c w e1 e2).stay sG fun _ _ => rfl, R.ap, fun i c b e hb => ?_, ⟨R.tt.t, (R.tt.n.lessB fun b o e => by
    have hb : b ≠ p := fun z => by rw [z, h0] at e; cases e
    rw [hs b hb] at e; exact e).updG (R.tt.n.b _ _ h).1⟩⟩, sG⟩
  · by_cases hb : b = p
    · subst hb; rw [upd_same] at e; cases e; exact R.sb _ _ h
    · rw [upd_ne hb] at e; exact R.sg _ _ e
  · have hb : b ≠ p := fun z => by rw [z, h0] at e; cases e
    rw [hs b hb] at e; exact R.sb _ _ e
  · by_cases hb : b = p
    · subst hb; exact .inr h0
    · rw [upd_ne hb, hs b hb]; exact R.dj b
  · obtain ⟨f1, f2⟩ := R.fr i c b e hb
    have hbp : b ≠ p := fun z => by rw [z, h] at f2; cases f2
    exact ⟨by rw [upd_ne hbp]; exact f1, by rw [hs b hbp]; exact f2⟩
/-- a slot is stored -/
theorem Rel.set {v : V} (R : Rel K B G δ σ H) (ok : CellOk K G H c (some v)) (hn : ∀ a ∈ c.fp, (G a = none ∧ B a = none) ∧ ∀ j c', j ≠ i → δ[j]? = some c' → a ∉ c'.fp) : Rel K B G (δ.set i c) (σ.set i (some v)) H := by
  have get : ∀ {j : Nat} {x : Cell}, (δ.set i c)[j]? = some x → (j = i ∧ x = c) ∨ (j ≠ i ∧ δ[j]? = some x) := fun {j x} e => by
    by_cases hj : j = i
    · subst hj
      rw [List.getElem?_set] at e
      simp only [if_true] at e
      split at e
      · cases e; exact .inl ⟨rfl, rfl⟩
      · cases e
    · rw [List.getElem?_set_ne (Ne.symm hj)] at e; exact .inr ⟨hj, e⟩
  refine ⟨by simp [R.len], R.sg, R.sb, R.dj, fun j x w e1 e2 => ?_, fun j k x y a e1 e2 m1 m2 => ?_, fun j x a e m => ?_, R.tt⟩
  · rcases get e1 with ⟨rfl, rfl⟩ | ⟨hj, e1⟩
    · rw [List.getElem?_set] at e2
      simp only [if_true] at e2
      split at e2
      · cases e2; exact ok
      · cases e2
    · rw [List.getElem?_set_ne (Ne.symm hj)] at e2
      exact R.ok j x w e1 e2
  · rcases get e1 with ⟨h1, h1'⟩ | ⟨h1, e3⟩
    · rcases get e2 with ⟨h2, h2'⟩ | ⟨h2, e4⟩
      · rw [h1, h2]
      · rw [h1'] at m1; exact absurd m2 ((hn a m1).2 k y h2 e4)
    · rcases get e2 with ⟨h2, h2'⟩ | ⟨h2, e4⟩
      · rw [h2'] at m2; exact absurd m1 ((hn a m2).2 j x h1 e3)
      · exact R.ap j k x y a e3 e4 m1 m2
  · rcases get e with ⟨_, rfl⟩ | ⟨_, e⟩
    · exact (hn a m).1
    · exact R.fr j x a e m
theorem Rel.setD {v : V} {x : PyData} (R : Rel K B G δ σ H) (h : Dn K G v x) : Rel K B G (δ.set i (.d x)) (σ.set i (some v)) H :=
  R.set ⟨v, rfl, h⟩ fun a m => by cases m
/-- a slot is forgotten -/
theorem Rel.clear (R : Rel K B G δ σ H) (o : Option V) : Rel K B G (δ.set i .em) (σ.set i o) H := by
  have get : ∀ {j : Nat} {x : Cell}, (δ.set i .em)[j]? = some x → x = .em ∨ (j ≠ i ∧ δ[j]? = some x) := fun {j x} e => by
    by_cases hj : j = i
    · subst hj
      rw [List.getElem?_set] at e
      simp only [if_true] at e
      split at e
      · cases e; exact .inl rfl
      · cases e
    · rw [List.getElem?_set_ne (Ne.symm hj)] at e; exact .inr ⟨hj, e⟩
  refine ⟨by simp [R.len], R.sg, R.sb, R.dj, fun j x w e1 e2 => ?_, fun j k x y a e1 e2 m1 m2 => ?_, fun j x a e m => ?_, R.tt⟩
  · rcases get e1 with rfl | ⟨hj, e1⟩
    · trivial
    · rw [List.getElem?_set_ne (Ne.symm hj)] at e2
      exact R.ok j x w e1 e2
  · rcases get e1 with rfl | ⟨h1, e1⟩
    · cases m1
    · rcases get e2 with rfl | ⟨h2, e2⟩
      · cases m2
      · exact R.ap j k x y a e1 e2 m1 m2
  · rcases get e with rfl | ⟨_, e⟩
    · cases m
    · exact R.fr j x a e m
/-- the cell at i is told otherwise (its value stays) -/
theorem Rel.recell {o : Option V} (R : Rel K B G δ σ H) (hσ : σ[i]? = some o) (ok : CellOk K G H c o) (hn : ∀ a ∈ c.fp, (G a = none ∧ B a = none) ∧ ∀ j c', j ≠ i → δ[j]? = some c' → a ∉ c'.fp) : Rel K B G (δ.set i c) σ H := by
  have hi : i < σ.length := (List.getElem?_eq_some_iff.mp hσ).1
  cases o with
  | some v =>
    have := R.set (i := i) (v := v) ok hn
    have e : σ.set i (some v) = σ := by
      apply List.ext_getElem?
      intro j
      by_cases hj : j = i
      · subst hj; rw [List.getElem?_set_self hi, hσ]
      · rw [List.getElem?_set_ne (Ne.symm hj)]
    rw [e] at this; exact this
  | none =>
    cases c with
    | em =>
      have := R.clear (i := i) none
      have e : σ.set i none = σ := by
        apply List.ext_getElem?
        intro j
        by_cases hj : j = i
        · subst hj; rw [List.getElem?_set_self hi, hσ]
        · rw [List.getElem?_set_ne (Ne.symm hj)]
      rw [e] at this; exact this
    | d x => obtain ⟨v, e, _⟩ := ok; cases e
    | ol a xs => obtain ⟨e, _⟩ := ok; cases e
    | dk a b c => obtain ⟨e, _⟩ := ok; cases e
    | scr a ns => obtain ⟨e, _⟩ := ok; cases e
    | xc a cls d x => obtain ⟨e, _⟩ := ok; cases e
    | ob a n fs => obtain ⟨e, _⟩ := ok; cases e
    | fv a m => obtain ⟨e, _⟩ := ok; cases e
    | gx t => obtain ⟨e, _⟩ := ok; cases e
    | od a kvs => obtain ⟨e, _⟩ := ok; cases e
    | dx a b c xs n ys => obtain ⟨e, _⟩ := ok; cases e
/-- a list of one's own is given away: it never changes any more -/
theorem Rel.freeze {xs : List PyData} (R : Rel K B G δ σ H) (h : δ[i]? = some (.ol a xs)) :
    ∃ vs, H a = some (.lst vs) ∧ DnL K G vs xs ∧ σ[i]? = some (some (.ref a)) ∧ Same G (upd G a (.lst vs)) ∧ Rel K B (upd G a (.lst vs)) (δ.set i (.d (.list xs))) σ H ∧ Dn K (upd G a (.lst vs)) (.ref a) (.list xs) := by
  obtain ⟨o, hσ, rfl, vs, e, t⟩ := R.at h
  obtain ⟨ga, ba⟩ := R.fr i _ a h (by simp [Cell.fp])
  have sG : Same G (upd G a (.lst vs)) := same_new ga
  have dn : Dn K (upd G a (.lst vs)) (.ref a) (.list xs) := .lst upd_same (t.mono sG)
  have hi : i < δ.length := (List.getElem?_eq_some_iff.mp h).1
  have get : ∀ {j : Nat} {x : Cell}, (δ.set i (.d (.list xs)))[j]? = some x → (j = i ∧ x = .d (.list xs)) ∨ (j ≠ i ∧ δ[j]? = some x) := fun {j x} e => by
    by_cases hj : j = i
    · subst hj
      rw [List.getElem?_set_self hi] at e; cases e; exact .inl ⟨rfl, rfl⟩
    · rw [List.getElem?_set_ne (Ne.symm hj)] at e; exact .inr ⟨hj, e⟩
  refine ⟨vs, e, t, hσ, sG, ⟨by simp [R.len], fun b x q => ?_, R.sb, fun b => ?_, fun j x w e1 e2 => ?_, fun j k x y z e1 e2 m1 m2 => ?_, fun j x z e1 m => ?_, ⟨R.tt.t, R.tt.n.updG fun _ z => (nomatch z)⟩⟩, dn⟩
  · by_cases hb : b = a
    · subst hb; rw [upd_same] at q; cases q; exact e
    · rw [upd_ne hb] at q; exact R.sg _ _ q
  · by_cases hb : b = a
    · subst hb; exact .inr ba
    · rw [upd_ne hb]; exact R.dj b
  · rcases get e1 with ⟨rfl, rfl⟩ | ⟨hj, e1⟩
    · rw [hσ] at e2; cases e2; exact ⟨_, rfl, dn⟩
    · exact (R.ok j x w e1 e2).stay sG fun _ _ => rfl
  · rcases get e1 with ⟨_, rfl⟩ | ⟨h1, e1⟩
    · cases m1
    · rcases get e2 with ⟨_, rfl⟩ | ⟨h2, e2⟩
      · cases m2
      · exact R.ap j k x y z e1 e2 m1 m2
  · rcases get e1 with ⟨_, rfl⟩ | ⟨hj, e1⟩
    · cases m
    · obtain ⟨f1, f2⟩ := R.fr j x z e1 m
      refine ⟨?_, f2⟩
      rw [upd_ne (fun q => ?_)]
      · exact f1
      · subst q
        exact hj (R.ap j i x _ z e1 h m (by simp [Cell.fp]))
/-- a list of one's own is changed -/
theorem Rel.write {xs ys : List PyData} {ws : List V} (R : Rel K B G δ σ H) (h : δ[i]? = some (.ol a xs)) (t' : DnL K G ws ys) : Rel K B G (δ.set i (.ol a ys)) σ (upd H a (.lst ws)) := by
  obtain ⟨o, hσ, rfl, vs, e, t⟩ := R.at h
  obtain ⟨ga, ba⟩ := R.fr i _ a h (by simp [Cell.fp])
  have hi : i < δ.length := (List.getElem?_eq_some_iff.mp h).1
  have get : ∀ {j : Nat} {x : Cell}, (δ.set i (.ol a ys))[j]? = some x → (j = i ∧ x = .ol a ys) ∨ (j ≠ i ∧ δ[j]? = some x) := fun {j x} e => by
    by_cases hj : j = i
    · subst hj
      rw [List.getElem?_set_self hi] at e; cases e; exact .inl ⟨rfl, rfl⟩
    · rw [List.getElem?_set_ne (Ne.symm hj)] at e; exact .inr ⟨hj, e⟩
  refine ⟨by simp [R.len], fun b x q => ?_, fun b x q => ?_, R.dj, fun j x w e1 e2 => ?_, fun j k x y z e1 e2 m1 m2 => ?_, fun j x z e1 m => ?_, ⟨tabs_upd R.tt.t fun x e' => by rw [e] at e'; cases e'; exact notTE_lst, R.tt.n⟩⟩
  · rw [upd_ne (fun z => by rw [z, ga] at q; cases q)]; exact R.sg _ _ q
  · rw [upd_ne (fun z => by rw [z, ba] at q; cases q)]; exact R.sb _ _ q
  · rcases get e1 with ⟨rfl, rfl⟩ | ⟨hj, e1⟩
    · rw [hσ] at e2; cases e2; exact ⟨rfl, ws, upd_same, t'⟩
    · refine (R.ok j x w e1 e2).stay (Same.refl _) fun b hb => upd_ne fun q => ?_
      rw [q] at hb
      exact hj (R.ap j i x _ a e1 h hb (by simp [Cell.fp]))
  · rcases get e1 with ⟨h1, rfl⟩ | ⟨h1, e1⟩
    · rcases get e2 with ⟨h2, rfl⟩ | ⟨h2, e2⟩
      · rw [h1, h2]
      · exact h1.trans (R.ap i k _ y z h e2 (by simpa [Cell.fp] using m1) m2)
    · rcases get e2 with ⟨h2, rfl⟩ | ⟨h2, e2⟩
      · exact (R.ap j i x _ z e1 h m1 (by simpa [Cell.fp] using m2)).trans h2.symm
      · exact R.ap j k x y z e1 e2 m1 m2
  · rcases get e1 with ⟨_, rfl⟩ | ⟨hj, e1⟩
    · have : z = a := by simpa [Cell.fp] using m
      subst this; exact ⟨ga, ba⟩
    · exact R.fr j x z e1 m
end
end DL
set_option Elab.async false
set_option linter.all false
set_option maxRecDepth 100000
set_option maxHeartbeats 4000000
namespace DL
open PySem PySem.Spec PyProof.Rows L2
variable [Tb]

inductive Opd where
  | d (x : PyData)
  | s (i : Nat)
def OpdOk (K : PySem.W.Frag) (G : Hp) (σ : L2.St) (v : V) : Opd → Prop
  | .d x => Dn K G v x
  | .s i => σ[i]? = some (some v)
inductive OpdsOk (K : PySem.W.Frag) (G : Hp) (σ : L2.St) : List V → List Opd → Prop
  | nil : OpdsOk K G σ [] []
  | cons {v : V} {vs : List V} {o : Opd} {os : List Opd} (h : OpdOk K G σ v o) (t : OpdsOk K G σ vs os) : OpdsOk K G σ (v :: vs) (o :: os)
/-- data, or a list of one's own that is looked at -/
def Bor (K : PySem.W.Frag) (G H : Hp) (v : V) (x : PyData) : Prop := Dn K G v x ∨ ∃ a vs xs, v = .ref a ∧ x = .list xs ∧ H a = some (.lst vs) ∧ DnL K G vs xs
/-- looked at -/
def use (o : Opd) (δ : DS) (k : PyData → Prop) : Prop :=
  match o with
  | .d x => k x
  | .s i => match δ[i]? with
    | some (.d x) => k x
    | some (.ol _ xs) => k (.list xs)
    | _ => False
/-- given away -/
def lk (o : Opd) (δ : DS) (k : PyData → DS → Prop) : Prop :=
  match o with
  | .d x => k x δ
  | .s i => match δ[i]? with
    | some (.d x) => k x δ
    | some (.ol _ xs) => k (.list xs) (δ.set i (.d (.list xs)))
    | _ => False
def useL : List Opd → DS → (List PyData → Prop) → Prop
  | [], _, k => k []
  | o :: os, δ, k => use o δ fun x => useL os δ fun xs => k (x :: xs)
def lkL : List Opd → DS → (List PyData → DS → Prop) → Prop
  | [], δ, k => k [] δ
  | o :: os, δ, k => lk o δ fun x δ1 => lkL os δ1 fun xs δ2 => k (x :: xs) δ2
inductive BorL (K : PySem.W.Frag) (G H : Hp) : List V → List PyData → Prop
  | nil : BorL K G H [] []
  | cons {v : V} {vs : List V} {d : PyData} {ds : List PyData} (h : Bor K G H v d) (t : BorL K G H vs ds) : BorL K G H (v :: vs) (d :: ds)
section
variable {K : PySem.W.Frag} {B G G' H H' : Hp} {δ δ' : DS} {σ : L2.St} {v : V} {o : Opd} {x : PyData}
theorem OpdOk.mono (s : Same G G') (h : OpdOk K G σ v o) : OpdOk K G' σ v o := by
  cases o with
  | d x => exact Dn.mono s x h
  | s i => exact h
theorem OpdsOk.mono (s : Same G G') : ∀ {vs : List V} {os : List Opd}, OpdsOk K G σ vs os → OpdsOk K G' σ vs os
  | _, [], h => by cases h; exact .nil
  | _, o :: os, h => by cases h with | cons a b => exact .cons (a.mono s) (OpdsOk.mono s b)
theorem Bor.dn (R : Rel K B G δ σ H) (h : Bor K G H v x) : Dn K H v x := by
  rcases h with h | ⟨a, vs, xs, rfl, rfl, e, t⟩
  · exact h.mono R.sg
  · exact .lst e (t.mono R.sg)
theorem use_ok {k : PyData → Prop} (R : Rel K B G δ σ H) (ok : OpdOk K G σ v o) (h : use o δ k) : ∃ x, k x ∧ Bor K G H v x := by
  cases o with
  | d x => exact ⟨x, h, .inl ok⟩
  | s i =>
    have ok : σ[i]? = some (some v) := ok
    unfold use at h
    simp only at h
    cases e : δ[i]? with
    | none => rw [e] at h; exact h.elim
    | some c =>
      rw [e] at h
      obtain ⟨w, hw, co⟩ := R.at e
      rw [ok] at hw; cases hw
      cases c with
      | em => exact h.elim
      | dk a b c => exact h.elim
      | scr a ns => exact h.elim
      | xc a cls d x => exact h.elim
      | ob a n fs => exact h.elim
      | fv a m => exact h.elim
      | gx t => exact h.elim
      | od a kvs => exact h.elim
      | dx a b c xs n ys => exact h.elim
      | d x =>
        obtain ⟨v', e', q⟩ := co
        cases e'
        exact ⟨x, h, .inl q⟩
      | ol a xs =>
        obtain ⟨e', vs, q, t⟩ := co
        cases e'
        exact ⟨_, h, .inr ⟨a, vs, xs, rfl, rfl, q, t⟩⟩
theorem lk_ok {k : PyData → DS → Prop} (R : Rel K B G δ σ H) (ok : OpdOk K G σ v o) (h : lk o δ k) : ∃ G' δ' x, k x δ' ∧ Same G G' ∧ Rel K B G' δ' σ H ∧ Dn K G' v x := by
  cases o with
  | d x => exact ⟨G, δ, x, h, Same.refl _, R, ok⟩
  | s i =>
    have ok : σ[i]? = some (some v) := ok
    unfold lk at h
    simp only at h
    cases e : δ[i]? with
    | none => rw [e] at h; exact h.elim
    | some c =>
      rw [e] at h
      cases c with
      | em => exact h.elim
      | dk a b c => exact h.elim
      | scr a ns => exact h.elim
      | xc a cls d x => exact h.elim
      | ob a n fs => exact h.elim
      | fv a m => exact h.elim
      | gx t => exact h.elim
      | od a kvs => exact h.elim
      | dx a b c xs n ys => exact h.elim
      | d x =>
        obtain ⟨w, hw, co⟩ := R.at e
        rw [ok] at hw; cases hw
        obtain ⟨v', e', q⟩ := co
        cases e'
        exact ⟨G, δ, x, h, Same.refl _, R, q⟩
      | ol a xs =>
        obtain ⟨vs, q1, q2, q3, q4, q5, q6⟩ := R.freeze e
        rw [ok] at q3; cases q3
        exact ⟨_, _, _, h, q4, q5, q6⟩
theorem useL_ok (R : Rel K B G δ σ H) : ∀ {vs : List V} {os : List Opd} {k : List PyData → Prop}, OpdsOk K G σ vs os → useL os δ k → ∃ xs, k xs ∧ BorL K G H vs xs
  | _, [], _, h, q => by cases h; exact ⟨[], q, .nil⟩
  | _, o :: os, k, h, q => by
    cases h with
    | cons a b =>
      obtain ⟨x, q1, b1⟩ := use_ok R a q
      obtain ⟨xs, q2, b2⟩ := useL_ok R b q1
      exact ⟨x :: xs, q2, .cons b1 b2⟩
theorem lkL_ok : ∀ {vs : List V} {os : List Opd} {G : Hp} {δ : DS} {k : List PyData → DS → Prop}, Rel K B G δ σ H → OpdsOk K G σ vs os → lkL os δ k → ∃ G' δ' xs, k xs δ' ∧ Same G G' ∧ Rel K B G' δ' σ H ∧ DnL K G' vs xs
  | _, [], G, δ, _, R, h, q => by cases h; exact ⟨G, δ, [], q, Same.refl _, R, .nil⟩
  | _, o :: os, G, δ, k, R, h, q => by
    cases h with
    | cons a b =>
      obtain ⟨G1, δ1, x, q1, s1, R1, d1⟩ := lk_ok R a q
      obtain ⟨G2, δ2, xs, q2, s2, R2, d2⟩ := lkL_ok R1 (b.mono s1) q1
      exact ⟨G2, δ2, x :: xs, q2, s1.trans s2, R2, .cons (d1.mono s2) d2⟩
end

abbrev DE := DS → (Opd → DS → Prop) → Prop
abbrev DT := DS → (Bool → DS → Prop) → Prop
abbrev DA := DS → (List Opd → DS → Prop) → Prop
abbrev DL := DS → (List PyData → DS → Prop) → Prop
def up (K : PySem.W.Frag) (w : DE) : TE := fun σ H Q => ∃ B G δ R, Rel K B G δ σ H ∧ w δ R ∧ ∀ v H' G' o δ', R o δ' → Same G G' → Rel K B G' δ' σ H' → OpdOk K G' σ v o → Q v H'
def upT (K : PySem.W.Frag) (w : DT) : TT := fun σ H Q => ∃ B G δ R, Rel K B G δ σ H ∧ w δ R ∧ ∀ b H' G' δ', R b δ' → Same G G' → Rel K B G' δ' σ H' → Q b H'
def upA (K : PySem.W.Frag) (w : DA) : TA := fun σ H Q => ∃ B G δ R, Rel K B G δ σ H ∧ w δ R ∧ ∀ vs H' G' os δ', R os δ' → Same G G' → Rel K B G' δ' σ H' → OpdsOk K G' σ vs os → Q vs H'
/-- a fresh list, in nobody's hands yet -/
def upL (K : PySem.W.Frag) (w : DL) : TE := fun σ H Q => ∃ B G δ R, Rel K B G δ σ H ∧ w δ R ∧ ∀ a vs H' G' xs δ', R xs δ' → Same G G' → Rel K (upd B a (.lst vs)) G' δ' σ H' → B a = none → DnL K G' vs xs → Q (.ref a) H'
abbrev JE (X : Cx) (e : Expr) (w : DE) : Prop := PE X e (up X.K w)
abbrev JT (X : Cx) (e : Expr) (w : DT) : Prop := PT X e (upT X.K w)
abbrev JW (X : Cx) (e : Expr) (w : DT) : Prop := PW X e (upT X.K w)
abbrev JA (X : Cx) (es : List Expr) (w : DA) : Prop := PA X es (upA X.K w)
abbrev JL (X : Cx) (e : Expr) (w : DL) : Prop := PE X e (upL X.K w)
section
variable {X : Cx} {e a b c : Expr} {es : List Expr} {pos : Pos}
theorem pe_le {t t' : TE} (h : PE X e t) (l : ∀ pins s σ H Q, Inv X pins σ H s → t' σ H Q → t σ H Q) : PE X e t' := ⟨fun pins s σ H Q I q => h.run pins s σ H Q I (l pins s σ H Q I q)⟩
theorem pt_le {t t' : TT} (h : PT X e t) (l : ∀ pins s σ H Q, Inv X pins σ H s → t' σ H Q → t σ H Q) : PT X e t' := ⟨fun pins s σ H Q I q => h.run pins s σ H Q I (l pins s σ H Q I q)⟩
theorem pw_le {t t' : TT} (h : PW X e t) (l : ∀ pins s σ H Q, Inv X pins σ H s → t' σ H Q → t σ H Q) : PW X e t' := ⟨fun wh pins s σ H Q I q => h.run wh pins s σ H Q I (l pins s σ H Q I q)⟩
theorem pa_le {t t' : TA} (h : PA X es t) (l : ∀ pins s σ H Q, Inv X pins σ H s → t' σ H Q → t σ H Q) : PA X es t' := ⟨fun pos pins s σ H Q I q => h.run pos pins s σ H Q I (l pins s σ H Q I q)⟩
/-- a fresh list is given away at once -/
def wOfL (w : DL) : DE := fun δ R => w δ fun xs δ' => R (.d (.list xs)) δ'
theorem je_ofL {w : DL} (h : JL X e w) : JE X e (wOfL w) := pe_le h fun pins s σ H Q I ⟨B, G, δ, R, rel, hw, k⟩ => by
  refine ⟨B, G, δ, _, rel, hw, fun a vs H' G' xs δ' r sG rel' hB t => ?_⟩
  obtain ⟨rel2, s2⟩ := rel'.takeB (p := a) hB (fun b hb => (upd_ne hb).symm) upd_same
  exact k _ H' _ _ _ r (sG.trans s2) rel2 (Dn.lst upd_same (t.mono s2))

def wVar (i : Nat) : DE := fun δ R => match δ[i]? with
  | some (.d x) => R (.d x) δ
  | some .em => False
  | none => False
  | _ => R (.s i) δ
theorem je_var {i : Nat} {x : Str} (h : PE X (.Name x pos) (tVar i)) : JE X (.Name x pos) (wVar i) := pe_le h fun pins s σ H Q I ⟨B, G, δ, R, rel, hw, k⟩ => by
  unfold wVar at hw
  cases e : δ[i]? with
  | none => rw [e] at hw; exact hw.elim
  | some c =>
    rw [e] at hw
    obtain ⟨w, hw', co⟩ := rel.at e
    cases c with
    | em => exact hw.elim
    | d x =>
      obtain ⟨v, rfl, q⟩ := co
      exact ⟨v, hw', k v H G _ _ hw (Same.refl _) rel q⟩
    | ol a xs =>
      obtain ⟨rfl, _⟩ := co
      exact ⟨_, hw', k _ H G _ _ hw (Same.refl _) rel hw'⟩
    | dk a b c =>
      obtain ⟨rfl, _⟩ := co
      exact ⟨_, hw', k _ H G _ _ hw (Same.refl _) rel hw'⟩
    | ob a n fs =>
      obtain ⟨rfl, _⟩ := co
      exact ⟨_, hw', k _ H G _ _ hw (Same.refl _) rel hw'⟩
    | fv a m =>
      obtain ⟨rfl, _⟩ := co
      exact ⟨_, hw', k _ H G _ _ hw (Same.refl _) rel hw'⟩
    | gx t =>
      obtain ⟨rfl, _⟩ := co
      exact ⟨_, hw', k _ H G _ _ hw (Same.refl _) rel hw'⟩
    | xc a cls d x =>
      obtain ⟨rfl, _⟩ := co
      exact ⟨_, hw', k _ H G _ _ hw (Same.refl _) rel hw'⟩
    | scr a ns =>
      obtain ⟨rfl, _⟩ := co
      exact ⟨_, hw', k _ H G _ _ hw (Same.refl _) rel hw'⟩
    | od a kvs =>
      obtain ⟨rfl, _⟩ := co
      exact ⟨_, hw', k _ H G _ _ hw (Same.refl _) rel hw'⟩
    | dx a b c xs n ys =>
      obtain ⟨rfl, _⟩ := co
      exact ⟨_, hw', k _ H G _ _ hw (Same.refl _) rel hw'⟩
def wC (x : PyData) : DE := fun δ R => R (.d x) δ
theorem je_c {v : V} {x : PyData} (h : PE X e (tC v)) (hv : ∀ K G, Dn K G v x) : JE X e (wC x) := pe_le h fun pins s σ H Q I ⟨B, G, δ, R, rel, hw, k⟩ => k v H G _ _ hw (Same.refl _) rel (hv _ _)
theorem je_int {i j} : JE X (.Constant (.int i) j pos) (wC (.int i)) := je_c pe_int fun _ _ => .int i
theorem je_str {i j} : JE X (.Constant (.str i) j pos) (wC (.str i)) := je_c pe_str fun _ _ => .str i
theorem je_bl {i j} : JE X (.Constant (.bool i) j pos) (wC (.bool i)) := je_c pe_bl fun _ _ => .bl i
theorem je_non {j} : JE X (.Constant .none j pos) (wC .none) := je_c pe_non fun _ _ => .non

def wNil : DA := fun δ R => R [] δ
def wCons (w : DE) (r : DA) : DA := fun δ R => w δ fun o δ1 => r δ1 fun os δ2 => R (o :: os) δ2
theorem ja_nil : JA X [] wNil := pa_le pa_nil fun pins s σ H Q I ⟨B, G, δ, R, rel, hw, k⟩ => k [] H G _ _ hw (Same.refl _) rel .nil
theorem ja_cons {w : DE} {r : DA} (ha : JE X e w) (hr : JA X es r) (hs : starEach (e :: es) X.env = (false, eval e X.env) :: starEach es X.env := by rfl) : JA X (e :: es) (wCons w r) :=
  pa_le (pa_cons ha hr hs) fun pins s σ H Q I ⟨B, G, δ, R, rel, hw, k⟩ =>
    ⟨B, G, δ, _, rel, hw, fun v H1 G1 o δ1 r1 s1 rel1 ok1 => ⟨B, G1, δ1, _, rel1, r1, fun vs H2 G2 os δ2 r2 s2 rel2 ok2 => k (v :: vs) H2 G2 _ _ r2 (s1.trans s2) rel2 (.cons (ok1.mono s2) ok2)⟩⟩

abbrev P2 := PyData → PyData → (PyData → Prop) → Prop
abbrev PN := List PyData → (PyData → Prop) → Prop
def rOf (K : PySem.W.Frag) (p : P2) : R2 := fun x y H Q => ∃ B G δ σ dx dy R, Rel K B G δ σ H ∧ Bor K G H x dx ∧ Bor K G H y dy ∧ p dx dy R ∧ ∀ v H' G' z, R z → Same G G' → Rel K B G' δ σ H' → Dn K G' v z → Q v H'
abbrev OpD (X : Cx) (f : Value → Value → Sem Value) (p : P2) : Prop := OpR X f (rOf X.K p)
def wOp (p : P2) (wa wb : DE) : DE := fun δ R => wa δ fun o1 δ1 => wb δ1 fun o2 δ2 => use o1 δ2 fun x => use o2 δ2 fun y => p x y fun z => R (.d z) δ2
theorem op_up {p : P2} {wa wb : DE} {K : PySem.W.Frag} {σ : L2.St} {H : Hp} {Q : VK} (h : up K (wOp p wa wb) σ H Q) : tOp (rOf K p) (up K wa) (up K wb) σ H Q := by
  obtain ⟨B, G, δ, R, rel, hw, k⟩ := h
  refine ⟨B, G, δ, _, rel, hw, fun v H1 G1 o1 δ1 r1 s1 rel1 ok1 => ⟨B, G1, δ1, _, rel1, r1, fun u H2 G2 o2 δ2 r2 s2 rel2 ok2 => ?_⟩⟩
  obtain ⟨x, q1, b1⟩ := use_ok rel2 (ok1.mono s2) r2
  obtain ⟨y, q2, b2⟩ := use_ok rel2 ok2 q1
  exact ⟨B, G2, δ2, σ, x, y, _, rel2, b1, b2, q2, fun v' H' G' z rz s3 rel3 dz => k v' H' G' _ _ rz (s1.trans (s2.trans s3)) rel3 dz⟩
theorem je_op {p : P2} {op : Operator} {wa wb : DE} (ho : OpD X (binaryOp op) p) (ha : JE X a wa) (hb : JE X b wb) : JE X (.BinOp a op b pos) (wOp p wa wb) :=
  pe_le (pe_op ho ha hb) fun _ _ _ _ _ _ h => op_up h
theorem je_cmp {p : P2} {op : CmpOp} {wa wb : DE} (ho : OpD X (compareOp op) p) (ha : JE X a wa) (hb : JE X b wb) (hm : behindInMarks op b = false := by rfl) : JE X (.Compare a [op] [b] pos) (wOp p wa wb) :=
  pe_le (pe_cmpR ho ha hb hm) fun _ _ _ _ _ _ h => op_up h
/-- a test by a value that is True or False -/
def wB (w : DE) : DT := fun δ R => w δ fun o δ1 => use o δ1 fun x => ∃ b, x = .bool b ∧ R b δ1
theorem dn_bool {K : PySem.W.Frag} {G : Hp} {v : V} {b : Bool} (h : Dn K G v (.bool b)) : v = .bl b := by cases h; rfl
theorem dn_int {K : PySem.W.Frag} {G : Hp} {v : V} {b : Int} (h : Dn K G v (.int b)) : v = .int b := by cases h; rfl
theorem dn_str {K : PySem.W.Frag} {G : Hp} {v : V} {b : Str} (h : Dn K G v (.str b)) : v = .str b := by cases h; rfl
theorem dn_none {K : PySem.W.Frag} {G : Hp} {v : V} (h : Dn K G v .none) : v = .non := by cases h; rfl
theorem bor_bool {K : PySem.W.Frag} {G H : Hp} {v : V} {b : Bool} (h : Bor K G H v (.bool b)) : v = .bl b := by
  rcases h with h | ⟨_, _, _, _, e, _⟩
  · exact dn_bool h
  · cases e
theorem bor_int {K : PySem.W.Frag} {G H : Hp} {v : V} {b : Int} (h : Bor K G H v (.int b)) : v = .int b := by
  rcases h with h | ⟨_, _, _, _, e, _⟩
  · exact dn_int h
  · cases e
theorem bor_str {K : PySem.W.Frag} {G H : Hp} {v : V} {b : Str} (h : Bor K G H v (.str b)) : v = .str b := by
  rcases h with h | ⟨_, _, _, _, e, _⟩
  · exact dn_str h
  · cases e
theorem bor_none {K : PySem.W.Frag} {G H : Hp} {v : V} (h : Bor K G H v .none) : v = .non := by
  rcases h with h | ⟨_, _, _, _, e, _⟩
  · exact dn_none h
  · cases e
theorem bor_tup {K : PySem.W.Frag} {G H : Hp} {v : V} {ds : List PyData} (h : Bor K G H v (.tuple ds)) : ∃ a vs, v = .ref a ∧ SqT K G a vs ∧ DnL K G vs ds := by
  rcases h with h | ⟨_, _, _, _, e, _⟩
  · cases h with | tup h t => exact ⟨_, _, rfl, SqT.of h, t⟩
  · cases e
theorem bor_tupS {K : PySem.W.Frag} {G H : Hp} {v : V} {ds : List PyData} (h : Bor K G H v (.tuple ds)) : ∃ a vs, v = .ref a ∧ G a = some (.tup vs) ∧ DnL K G vs ds := by
  rcases h with h | ⟨_, _, _, _, e, _⟩
  · cases h with | tup h t => exact ⟨_, _, rfl, h, t⟩
  · cases e
/-- a list: its items stand for what never changes; it can be read where the heap stands now -/
theorem bor_lst {K : PySem.W.Frag} {B G H : Hp} {δ : DS} {σ : L2.St} {v : V} {ds : List PyData} (R : Rel K B G δ σ H) (h : Bor K G H v (.list ds)) : ∃ a vs, v = .ref a ∧ H a = some (.lst vs) ∧ DnL K G vs ds := by
  rcases h with h | ⟨a, vs, xs, rfl, e, q, t⟩
  · cases h with | lst h t => exact ⟨_, _, rfl, R.sg _ _ h, t⟩
  · cases e; exact ⟨a, vs, rfl, q, t⟩
theorem b_up {w : DE} {K : PySem.W.Frag} {σ : L2.St} {H : Hp} {Q : Bool → Hp → Prop} (h : upT K (wB w) σ H Q) : up K w σ H fun x H1 => ∃ c, x = .bl c ∧ Q c H1 := by
  obtain ⟨B, G, δ, R, rel, hw, k⟩ := h
  refine ⟨B, G, δ, _, rel, hw, fun v H1 G1 o1 δ1 r1 s1 rel1 ok1 => ?_⟩
  obtain ⟨x, ⟨b, rfl, q⟩, b1⟩ := use_ok rel1 ok1 r1
  exact ⟨b, bor_bool b1, k b H1 G1 _ q s1 rel1⟩
theorem jt_val {w : DE} (h : JE X e w) (he : ∀ whole, isTrue e X.env whole = (do let v ← whole; standAt e.pos; holding [v] (truthy v)) := by intro _; rfl) : JT X e (wB w) :=
  pt_le (pt_val h he) fun _ _ _ _ _ _ h => b_up h
theorem jt_cmp {p : P2} {op : CmpOp} {wa wb : DE} (ho : OpD X (compareOp op) p) (ha : JE X a wa) (hb : JE X b wb) (hm : behindInMarks op b = false := by rfl) : JT X (.Compare a [op] [b] pos) (wB (wOp p wa wb)) :=
  pt_le (pt_cmpR ho ha hb hm) fun _ _ _ _ _ _ h => by
    have h2 := b_up h
    exact op_up h2
def wChain (p q : P2) (wa wb wc : DE) : DE := fun δ R => wa δ fun o1 δ1 => wb δ1 fun o2 δ2 => use o1 δ2 fun x => use o2 δ2 fun y => p x y fun z => ∃ k, z = .bool k ∧
  if k = true then wc δ2 fun o3 δ3 => use o2 δ3 fun y => use o3 δ3 fun w => q y w fun z => R (.d z) δ3 else R (.d (.bool false)) δ2
theorem chain_up {p q : P2} {wa wb wc : DE} {K : PySem.W.Frag} {σ : L2.St} {H : Hp} {Q : VK} (h : up K (wChain p q wa wb wc) σ H Q) : tChain (rOf K p) (rOf K q) (up K wa) (up K wb) (up K wc) σ H Q := by
  obtain ⟨B, G, δ, R, rel, hw, k⟩ := h
  refine ⟨B, G, δ, _, rel, hw, fun v H1 G1 o1 δ1 r1 s1 rel1 ok1 => ⟨B, G1, δ1, _, rel1, r1, fun u H2 G2 o2 δ2 r2 s2 rel2 ok2 => ?_⟩⟩
  obtain ⟨x, q1, b1⟩ := use_ok rel2 (ok1.mono s2) r2
  obtain ⟨y, q2, b2⟩ := use_ok rel2 ok2 q1
  refine ⟨B, G2, δ2, σ, x, y, _, rel2, b1, b2, q2, fun v' H' G' z rz s3 rel3 dz => ?_⟩
  obtain ⟨kb, rfl, rz⟩ := rz
  refine ⟨kb, dn_bool dz, ?_⟩
  cases kb with
  | false =>
    rw [if_neg Bool.false_ne_true] at rz ⊢
    exact k _ H' G' _ _ rz (s1.trans (s2.trans s3)) rel3 (Dn.bl false)
  | true =>
    rw [if_pos rfl] at rz ⊢
    refine ⟨B, G', δ2, _, rel3, rz, fun w H4 G4 o3 δ4 r4 s4 rel4 ok4 => ?_⟩
    obtain ⟨y', q3, b3⟩ := use_ok rel4 (ok2.mono (s3.trans s4)) r4
    obtain ⟨w', q4, b4⟩ := use_ok rel4 ok4 q3
    exact ⟨B, G4, δ4, σ, y', w', _, rel4, b3, b4, q4, fun v' H' G5 z rz s5 rel5 dz => k v' H' G5 _ _ rz (s1.trans (s2.trans (s3.trans (s4.trans s5)))) rel5 dz⟩
theorem je_chain {p q : P2} {op op' : CmpOp} {wa wb wc : DE} (ho : OpD X (compareOp op) p) (ho' : OpD X (compareOp op') q) (ha : JE X a wa) (hb : JE X b wb) (hc : JE X c wc) (hm : lastMarks [op, op'] [b, c] = false := by rfl) : JE X (.Compare a [op, op'] [b, c] pos) (wChain p q wa wb wc) :=
  pe_le (pe_chain ho ho' ha hb hc (hm := hm)) fun _ _ _ _ _ _ h => chain_up h
theorem jt_chain {p q : P2} {op op' : CmpOp} {wa wb wc : DE} (ho : OpD X (compareOp op) p) (ho' : OpD X (compareOp op') q) (ha : JE X a wa) (hb : JE X b wb) (hc : JE X c wc) (hm : lastMarks [op, op'] [b, c] = false := by rfl) : JT X (.Compare a [op, op'] [b, c] pos) (wB (wChain p q wa wb wc)) :=
  pt_le (pt_chain ho ho' ha hb hc (hm := hm)) fun _ _ _ _ _ _ h => by
    have h2 := b_up h
    exact chain_up h2

variable {rest : List Expr}
def wAnd (t u : DT) : DT := fun δ R => t δ fun k δ1 => if k = true then u δ1 R else R false δ1
def wOr (t u : DT) : DT := fun δ R => t δ fun k δ1 => if k = true then R true δ1 else u δ1 R
def wNot (t : DT) : DT := fun δ R => t δ fun k δ1 => R (!k) δ1
theorem jw_and1 {t : DT} (h : JT X a t) : JW X (.BoolOp .And [a] pos) t := pw_and1 h
theorem jw_or1 {t : DT} (h : JT X a t) : JW X (.BoolOp .Or [a] pos) t := pw_or1 h
theorem jw_and {t u : DT} (ha : JT X a t) (hb : JW X (.BoolOp .And (b :: rest) pos) u) : JW X (.BoolOp .And (a :: b :: rest) pos) (wAnd t u) :=
  pw_le (pw_and ha hb) fun pins s σ H Q I ⟨B, G, δ, R, rel, hw, k⟩ => ⟨B, G, δ, _, rel, hw, fun c H1 G1 δ1 r1 s1 rel1 => by
    cases c with
    | true => rw [if_pos rfl] at r1 ⊢; exact ⟨B, G1, δ1, _, rel1, r1, fun b H2 G2 δ2 r2 s2 rel2 => k b H2 G2 δ2 r2 (s1.trans s2) rel2⟩
    | false => rw [if_neg Bool.false_ne_true] at r1 ⊢; exact k false H1 G1 δ1 r1 s1 rel1⟩
theorem jw_or {t u : DT} (ha : JT X a t) (hb : JW X (.BoolOp .Or (b :: rest) pos) u) : JW X (.BoolOp .Or (a :: b :: rest) pos) (wOr t u) :=
  pw_le (pw_or ha hb) fun pins s σ H Q I ⟨B, G, δ, R, rel, hw, k⟩ => ⟨B, G, δ, _, rel, hw, fun c H1 G1 δ1 r1 s1 rel1 => by
    cases c with
    | false => rw [if_neg Bool.false_ne_true] at r1 ⊢; exact ⟨B, G1, δ1, _, rel1, r1, fun b H2 G2 δ2 r2 s2 rel2 => k b H2 G2 δ2 r2 (s1.trans s2) rel2⟩
    | true => rw [if_pos rfl] at r1 ⊢; exact k true H1 G1 δ1 r1 s1 rel1⟩
theorem jt_w {t : DT} (h : JW X e t) : JT X e t := PW.pt h
theorem jt_not {t : DT} (h : JT X a t) : JT X (.UnaryOp .Not a pos) (wNot t) :=
  pt_le (pt_not h) fun pins s σ H Q I ⟨B, G, δ, R, rel, hw, k⟩ => ⟨B, G, δ, _, rel, hw, fun c H1 G1 δ1 r1 s1 rel1 => k (!c) H1 G1 δ1 r1 s1 rel1⟩
/-- .. as values, True and False alone -/
def wAndV (w u : DE) : DE := fun δ R => w δ fun o δ1 => use o δ1 fun x => ∃ k, x = .bool k ∧ if k = true then u δ1 R else R (.d (.bool false)) δ1
def wOrV (w u : DE) : DE := fun δ R => w δ fun o δ1 => use o δ1 fun x => ∃ k, x = .bool k ∧ if k = true then R (.d (.bool true)) δ1 else u δ1 R
def wNotV (w : DE) : DE := fun δ R => w δ fun o δ1 => use o δ1 fun x => ∃ k, x = .bool k ∧ R (.d (.bool (!k))) δ1
theorem je_one {op} {w : DE} (h : JE X a w) : JE X (.BoolOp op [a] pos) w := pe_one h
theorem je_and {w u : DE} (ha : JE X a w) (hb : JE X (.BoolOp .And (b :: rest) pos) u) : JE X (.BoolOp .And (a :: b :: rest) pos) (wAndV w u) :=
  pe_le (pe_and ha hb) fun pins s σ H Q I ⟨B, G, δ, R, rel, hw, k⟩ => ⟨B, G, δ, _, rel, hw, fun v H1 G1 o δ1 r1 s1 rel1 ok1 => by
    obtain ⟨x, ⟨c, rfl, q⟩, b1⟩ := use_ok rel1 ok1 r1
    refine ⟨c, bor_bool b1, ?_⟩
    cases c with
    | true => rw [if_pos rfl] at q ⊢; exact ⟨B, G1, δ1, _, rel1, q, fun b H2 G2 o2 δ2 r2 s2 rel2 ok2 => k b H2 G2 o2 δ2 r2 (s1.trans s2) rel2 ok2⟩
    | false => rw [if_neg Bool.false_ne_true] at q ⊢; exact k _ H1 G1 _ δ1 q s1 rel1 (Dn.bl false)⟩
theorem je_not {w : DE} (h : JE X a w) : JE X (.UnaryOp .Not a pos) (wNotV w) :=
  pe_le (pe_not h) fun pins s σ H Q I ⟨B, G, δ, R, rel, hw, k⟩ => ⟨B, G, δ, _, rel, hw, fun v H1 G1 o δ1 r1 s1 rel1 ok1 => by
    obtain ⟨x, ⟨c, rfl, q⟩, b1⟩ := use_ok rel1 ok1 r1
    exact ⟨c, bor_bool b1, k _ H1 G1 _ δ1 q s1 rel1 (Dn.bl _)⟩⟩
def wIfE (t : DT) (wa wb : DE) : DE := fun δ R => t δ fun k δ1 => if k = true then wa δ1 R else wb δ1 R
theorem je_ifE {t : DT} {wa wb : DE} (hc : JT X c t) (ha : JE X a wa) (hb : JE X b wb) : JE X (.IfExp c a b pos) (wIfE t wa wb) :=
  pe_le (pe_ifExp hc ha hb) fun pins s σ H Q I ⟨B, G, δ, R, rel, hw, k⟩ => ⟨B, G, δ, _, rel, hw, fun d H1 G1 δ1 r1 s1 rel1 => by
    cases d with
    | true => rw [if_pos rfl] at r1 ⊢; exact ⟨B, G1, δ1, _, rel1, r1, fun b H2 G2 o2 δ2 r2 s2 rel2 ok2 => k b H2 G2 o2 δ2 r2 (s1.trans s2) rel2 ok2⟩
    | false => rw [if_neg Bool.false_ne_true] at r1 ⊢; exact ⟨B, G1, δ1, _, rel1, r1, fun b H2 G2 o2 δ2 r2 s2 rel2 ok2 => k b H2 G2 o2 δ2 r2 (s1.trans s2) rel2 ok2⟩⟩
def pNeg (x : PyData) (R : PyData → Prop) : Prop := match x with
  | .int i => R (.int (-i))
  | _ => False
def wUn (p : PyData → (PyData → Prop) → Prop) (w : DE) : DE := fun δ R => w δ fun o δ1 => use o δ1 fun x => p x fun z => R (.d z) δ1
theorem je_neg {w : DE} (h : JE X a w) : JE X (.UnaryOp .USub a pos) (wUn pNeg w) :=
  pe_le (pe_un un_neg h) fun pins s σ H Q I ⟨B, G, δ, R, rel, hw, k⟩ => ⟨B, G, δ, _, rel, hw, fun v H1 G1 o δ1 r1 s1 rel1 ok1 => by
    obtain ⟨x, q, b1⟩ := use_ok rel1 ok1 r1
    cases x with
    | int i => exact ⟨i, bor_int b1, k _ H1 G1 _ δ1 q s1 rel1 (Dn.int _)⟩
    | _ => exact q.elim⟩
def wTup (w : DA) : DE := fun δ R => w δ fun os δ1 => lkL os δ1 fun xs δ2 => xs.length ≤ 1000 ∧ R (.d (.tuple xs)) δ2
def wLst (w : DA) : DL := fun δ R => w δ fun os δ1 => lkL os δ1 fun xs δ2 => xs.length ≤ 1000 ∧ R xs δ2
theorem le_line {n : Nat} (h : n ≤ 1000) : n ≤ sizeLine := by rw [sizeLine_eq]; omega
theorem je_tup {w : DA} {x1} (h : JA X es w) : JE X (.Tuple es x1 pos) (wTup w) :=
  pe_le (pe_tup h) fun pins s σ H Q I ⟨B, G, δ, R, rel, hw, k⟩ => ⟨B, G, δ, _, rel, hw, fun vs H1 G1 os δ1 r1 s1 rel1 ok1 => by
    obtain ⟨G2, δ2, xs, ⟨hl, q⟩, s2, rel2, t⟩ := lkL_ok rel1 ok1 r1
    refine ⟨by rw [t.len]; exact le_line hl, fun p np => ?_⟩
    obtain ⟨rel3, s3⟩ := rel2.laid (o := .tup vs) np
    exact k _ _ _ _ _ q (s1.trans (s2.trans s3)) rel3 (Dn.tup upd_same (t.mono s3))⟩
theorem jl_lst {w : DA} (h : JA X es w) : JL X (.List es pos) (wLst w) :=
  pe_le (pe_lst h) fun pins s σ H Q I ⟨B, G, δ, R, rel, hw, k⟩ => ⟨B, G, δ, _, rel, hw, fun vs H1 G1 os δ1 r1 s1 rel1 ok1 => by
    obtain ⟨G2, δ2, xs, ⟨hl, q⟩, s2, rel2, t⟩ := lkL_ok rel1 ok1 r1
    refine ⟨by rw [t.len]; exact le_line hl, fun p np => ?_⟩
    exact k p vs _ _ _ _ q (s1.trans s2) (rel2.growB np) (rel2.freeB np) t⟩
/-- {} -/
def wDic : DE := fun δ R => R (.d (.dict [])) δ
def rOfN (K : PySem.W.Frag) (p : PN) : List V → Hp → VK → Prop := fun vs H Q => ∃ B G δ σ ds R, Rel K B G δ σ H ∧ BorL K G H vs ds ∧ p ds R ∧ ∀ v H' G' z, R z → Same G G' → Rel K B G' δ σ H' → Dn K G' v z → Q v H'
abbrev CallD (X : Cx) (f : Value) (p : PN) : Prop := CallR X f (rOfN X.K p)
def wFn (p : PN) (w : DA) : DE := fun δ R => w δ fun os δ1 => useL os δ1 fun xs => p xs fun z => R (.d z) δ1
theorem fn_up {p : PN} {w : DA} {K : PySem.W.Frag} {σ : L2.St} {H : Hp} {Q : VK} (h : up K (wFn p w) σ H Q) : tCB (rOfN K p) (upA K w) σ H Q := by
  obtain ⟨B, G, δ, R, rel, hw, k⟩ := h
  refine ⟨B, G, δ, _, rel, hw, fun vs H1 G1 os δ1 r1 s1 rel1 ok1 => ?_⟩
  obtain ⟨xs, q, b⟩ := useL_ok rel1 ok1 r1
  exact ⟨B, G1, δ1, σ, xs, _, rel1, b, q, fun v H' G' z rz s2 rel2 dz => k v H' G' _ _ rz (s1.trans s2) rel2 dz⟩
theorem je_fn {p : PN} {w : DA} {id : String} {x : Str} {px : Pos} (hc : CallD X (.builtin id) p) (hg : Gl X x) (hm : X.mg x = none) (hv : bootBuiltins x = some (.builtin id)) (ha : JA X (e :: es) w) (hn : x ≠ "__name__" := by decide) (hdb : (x == ("__debug__" : Str)) = false := by decide)
    (he : starEach (e :: es) X.env = (false, eval e X.env) :: starEach es X.env := by rfl) (hpl : (backTo pos (starEach es X.env)).any (·.1) = false := by rfl) : JE X (.Call (.Name x px) (e :: es) [] pos) (wFn p w) :=
  pe_le (pe_callB hc hg hm hv ha hn hdb he hpl) fun _ _ _ _ _ _ h => fn_up h
theorem je_ty {p : PN} {w : DA} {T : String} {x : Str} {px : Pos} (hc : CallD X (.type T) p) (hg : Gl X x) (hm : X.mg x = none) (hv : bootBuiltins x = some (.type T)) (ha : JA X (e :: es) w) (hn : x ≠ "__name__" := by decide) (hdb : (x == ("__debug__" : Str)) = false := by decide)
    (he : starEach (e :: es) X.env = (false, eval e X.env) :: starEach es X.env := by rfl) (hpl : (backTo pos (starEach es X.env)).any (·.1) = false := by rfl) : JE X (.Call (.Name x px) (e :: es) [] pos) (wFn p w) :=
  pe_le (pe_callTy hc hg hm hv ha hn hdb he hpl) fun _ _ _ _ _ _ h => fn_up h
def rOfNL (K : PySem.W.Frag) (p : List PyData → (List PyData → Prop) → Prop) : List V → Hp → VK → Prop := fun vs H Q => ∃ B G δ σ ds R, Rel K B G δ σ H ∧ BorL K G H vs ds ∧ p ds R ∧ ∀ a ws H' G' z, R z → Same G G' → Rel K (upd B a (.lst ws)) G' δ σ H' → B a = none → DnL K G' ws z → Q (.ref a) H'
abbrev CallDL (X : Cx) (f : Value) (p : List PyData → (List PyData → Prop) → Prop) : Prop := CallR X f (rOfNL X.K p)
def wFnL (p : List PyData → (List PyData → Prop) → Prop) (w : DA) : DL := fun δ R => w δ fun os δ1 => useL os δ1 fun xs => p xs fun z => R z δ1
theorem fnL_up {p : List PyData → (List PyData → Prop) → Prop} {w : DA} {K : PySem.W.Frag} {σ : L2.St} {H : Hp} {Q : VK} (h : upL K (wFnL p w) σ H Q) : tCB (rOfNL K p) (upA K w) σ H Q := by
  obtain ⟨B, G, δ, R, rel, hw, k⟩ := h
  refine ⟨B, G, δ, _, rel, hw, fun vs H1 G1 os δ1 r1 s1 rel1 ok1 => ?_⟩
  obtain ⟨xs, q, b⟩ := useL_ok rel1 ok1 r1
  exact ⟨B, G1, δ1, σ, xs, _, rel1, b, q, fun a ws H' G' z rz s2 rel2 hB dz => k a ws H' G' _ _ rz (s1.trans s2) rel2 hB dz⟩
theorem jl_ty {p : List PyData → (List PyData → Prop) → Prop} {w : DA} {T : String} {x : Str} {px : Pos} (hc : CallDL X (.type T) p) (hg : Gl X x) (hm : X.mg x = none) (hv : bootBuiltins x = some (.type T)) (ha : JA X (e :: es) w) (hn : x ≠ "__name__" := by decide) (hdb : (x == ("__debug__" : Str)) = false := by decide)
    (he : starEach (e :: es) X.env = (false, eval e X.env) :: starEach es X.env := by rfl) (hpl : (backTo pos (starEach es X.env)).any (·.1) = false := by rfl) : JL X (.Call (.Name x px) (e :: es) [] pos) (wFnL p w) :=
  pe_le (pe_callTy hc hg hm hv ha hn hdb he hpl) fun _ _ _ _ _ _ h => fnL_up h
/-- xs + ys, xs * n -/
abbrev P2L := PyData → PyData → (List PyData → Prop) → Prop
def rOfL (K : PySem.W.Frag) (p : P2L) : R2 := fun x y H Q => ∃ B G δ σ dx dy R, Rel K B G δ σ H ∧ Bor K G H x dx ∧ Bor K G H y dy ∧ p dx dy R ∧ ∀ a ws H' G' z, R z → Same G G' → Rel K (upd B a (.lst ws)) G' δ σ H' → B a = none → DnL K G' ws z → Q (.ref a) H'
abbrev OpDL (X : Cx) (f : Value → Value → Sem Value) (p : P2L) : Prop := OpR X f (rOfL X.K p)
def wOpL (p : P2L) (wa wb : DE) : DL := fun δ R => wa δ fun o1 δ1 => wb δ1 fun o2 δ2 => use o1 δ2 fun x => use o2 δ2 fun y => p x y fun z => R z δ2
theorem opL_up {p : P2L} {wa wb : DE} {K : PySem.W.Frag} {σ : L2.St} {H : Hp} {Q : VK} (h : upL K (wOpL p wa wb) σ H Q) : tOp (rOfL K p) (up K wa) (up K wb) σ H Q := by
  obtain ⟨B, G, δ, R, rel, hw, k⟩ := h
  refine ⟨B, G, δ, _, rel, hw, fun v H1 G1 o1 δ1 r1 s1 rel1 ok1 => ⟨B, G1, δ1, _, rel1, r1, fun u H2 G2 o2 δ2 r2 s2 rel2 ok2 => ?_⟩⟩
  obtain ⟨x, q1, b1⟩ := use_ok rel2 (ok1.mono s2) r2
  obtain ⟨y, q2, b2⟩ := use_ok rel2 ok2 q1
  exact ⟨B, G2, δ2, σ, x, y, _, rel2, b1, b2, q2, fun a ws H' G' z rz s3 rel3 hB dz => k a ws H' G' _ _ rz (s1.trans (s2.trans s3)) rel3 hB dz⟩
theorem jl_op {p : P2L} {op : Operator} {wa wb : DE} (ho : OpDL X (binaryOp op) p) (ha : JE X a wa) (hb : JE X b wb) : JL X (.BinOp a op b pos) (wOpL p wa wb) :=
  pe_le (pe_op ho ha hb) fun _ _ _ _ _ _ h => opL_up h
abbrev IxD (X : Cx) (p : P2) : Prop := IxR X (rOf X.K p)
theorem je_ix {p : P2} {wa wb : DE} (hr : IxD X p) (ha : JE X a wa) (hb : JE X b wb) (hs : PlainIx b) : JE X (.Subscript a b pos) (wOp p wa wb) :=
  pe_le (pe_ix hr ha hb hs) fun _ _ _ _ _ _ h => op_up h
abbrev DO := DS → (Option Int → DS → Prop) → Prop
def upO (K : PySem.W.Frag) (w : DO) : TO := fun σ H Q => ∃ B G δ R, Rel K B G δ σ H ∧ w δ R ∧ ∀ i H' G' δ', R i δ' → Same G G' → Rel K B G' δ' σ H' → Q i H'
abbrev JO (X : Cx) (e : Option Expr) (w : DO) : Prop := PO X e (upO X.K w)
def wNoP : DO := fun δ R => R none δ
def wPart (w : DE) : DO := fun δ R => w δ fun o δ1 => use o δ1 fun x => ∃ i, x = .int i ∧ R (some i) δ1
theorem po_le {e : Option Expr} {t t' : TO} (h : PO X e t) (l : ∀ pins s σ H Q, Inv X pins σ H s → t' σ H Q → t σ H Q) : PO X e t' := ⟨fun pins s σ H Q I q => h.run pins s σ H Q I (l pins s σ H Q I q)⟩
theorem jo_none : JO X none wNoP := po_le po_none fun pins s σ H Q I ⟨B, G, δ, R, rel, hw, k⟩ => k none H G δ hw (Same.refl _) rel
theorem jo_some {w : DE} (h : JE X e w) : JO X (some e) (wPart w) := po_le (po_some h) fun pins s σ H Q I ⟨B, G, δ, R, rel, hw, k⟩ => ⟨B, G, δ, _, rel, hw, fun v H1 G1 o δ1 r1 s1 rel1 ok1 => by
  obtain ⟨x, ⟨i, rfl, q⟩, b⟩ := use_ok rel1 ok1 r1
  exact ⟨i, bor_int b, k _ H1 G1 δ1 q s1 rel1⟩⟩
abbrev P3 := PyData → Option Int → Option Int → (PyData → Prop) → Prop
def rOfS (K : PySem.W.Frag) (p : P3) : V → Option Int → Option Int → Hp → VK → Prop := fun x lo hi H Q => ∃ B G δ σ dx R, Rel K B G δ σ H ∧ Bor K G H x dx ∧ p dx lo hi R ∧ ∀ v H' G' z, R z → Same G G' → Rel K B G' δ σ H' → Dn K G' v z → Q v H'
def wSl (p : P3) (w : DE) (l h : DO) : DE := fun δ R => w δ fun o δ1 => l δ1 fun i δ2 => h δ2 fun j δ3 => use o δ3 fun x => p x i j fun z => R (.d z) δ3
theorem je_sl {p : P3} {w : DE} {l h : DO} {lo hi : Option Expr} {p2 : Pos} (hr : SlR X (rOfS X.K p)) (he : JE X e w) (hl : JO X lo l) (hh : JO X hi h) : JE X (.Subscript e (.Slice lo hi none p2) pos) (wSl p w l h) :=
  pe_le (pe_slice hr he hl hh) fun pins s σ H Q I ⟨B, G, δ, R, rel, hw, k⟩ => ⟨B, G, δ, _, rel, hw, fun v H1 G1 o δ1 r1 s1 rel1 ok1 => ⟨B, G1, δ1, _, rel1, r1, fun i H2 G2 δ2 r2 s2 rel2 => ⟨B, G2, δ2, _, rel2, r2, fun j H3 G3 δ3 r3 s3 rel3 => by
    obtain ⟨x, q, b⟩ := use_ok rel3 (ok1.mono (s2.trans s3)) r3
    exact ⟨B, G3, δ3, σ, x, _, rel3, b, q, fun v' H' G' z rz s4 rel4 dz => k v' H' G' _ _ rz (s1.trans (s2.trans (s3.trans s4))) rel4 dz⟩⟩⟩⟩
end
end DL
set_option Elab.async false
set_option linter.all false
set_option maxRecDepth 100000
set_option maxHeartbeats 4000000
namespace DL
open PySem PySem.Spec PyProof.Rows L2
variable [Tb]

mutual
theorem Dn.dp {K : PySem.W.Frag} {H : Hp} : ∀ (d : PyData) {v : V}, d.hasDict = false → Dn K H v d → Dp K H v d
  | .none, _, _, h => by cases h; exact .non
  | .bool b, _, _, h => by cases h; exact .bl b
  | .int i, _, _, h => by cases h; exact .int i
  | .str x, _, _, h => by cases h; exact .str x
  | .list ds, _, z, h => by cases h with | lst h t => exact .lst (SqL.of h) (DnL.dp ds (by simpa [PyData.hasDict] using z) t)
  | .tuple ds, _, z, h => by cases h with | tup h t => exact .tup (SqT.of h) (DnL.dp ds (by simpa [PyData.hasDict] using z) t)
  | .dict kvs, _, z, h => by simp [PyData.hasDict] at z
theorem DnL.dp {K : PySem.W.Frag} {H : Hp} : ∀ (ds : List PyData) {vs : List V}, PyData.hasDictAll ds = false → DnL K H vs ds → DpAll K H vs ds
  | [], _, _, h => by cases h; exact .nil
  | d :: ds, _, z, h => by
    have z' : d.hasDict = false ∧ PyData.hasDictAll ds = false := by simpa [PyData.hasDictAll] using z
    cases h with | cons a b => exact .cons (Dn.dp d z'.1 a) (DnL.dp ds z'.2 b)
end
theorem noDict_of_shaped {d : PyData} (h : SeqAt.shaped d = true) : d.hasDict = false := PyData.hasDict_of_canLay d (SeqAt.canLay_of_shaped h)

section
variable {X : Cx}
abbrev ints2 (f : Int → Int → (PyData → Prop) → Prop) : P2 := fun x y R => match x, y with
  | .int i, .int j => f i j R
  | _, _ => False
theorem opd_ints {f : Value → Value → Sem Value} {C : Int → Int → Prop} {g : Int → Int → Int} {p : Int → Int → (PyData → Prop) → Prop} (h : OpR X f (rI C fun i j => .int (g i j))) (hp : ∀ i j R, p i j R → C i j ∧ R (.int (g i j))) : OpD X f (ints2 p) := by
  intro pins s σ H x y v u Q I rx ry ⟨B, G, δ, σ', dx, dy, R, rel, bx, by', q, k⟩
  cases dx <;> cases dy <;> first | exact False.elim q | skip
  obtain ⟨c, r⟩ := hp _ _ _ q
  exact h pins s σ H x y v u Q I rx ry ⟨_, _, bor_int bx, bor_int by', c, k _ H G _ r (Same.refl _) rel (Dn.int _)⟩
theorem opd_ints0 {f : Value → Value → Sem Value} {g : Int → Int → Int} (h : OpR X f (rI0 fun i j => .int (g i j))) : OpD X f (ints2 fun i j R => R (.int (g i j))) := by
  intro pins s σ H x y v u Q I rx ry ⟨B, G, δ, σ', dx, dy, R, rel, bx, by', q, k⟩
  cases dx <;> cases dy <;> first | exact False.elim q | skip
  exact h pins s σ H x y v u Q I rx ry ⟨_, _, bor_int bx, bor_int by', k _ H G _ q (Same.refl _) rel (Dn.int _)⟩
theorem opd_bools {f : Value → Value → Sem Value} {g : Int → Int → Bool} (h : OpR X f (rI0 fun i j => .bl (g i j))) : OpD X f (ints2 fun i j R => R (.bool (g i j))) := by
  intro pins s σ H x y v u Q I rx ry ⟨B, G, δ, σ', dx, dy, R, rel, bx, by', q, k⟩
  cases dx <;> cases dy <;> first | exact False.elim q | skip
  exact h pins s σ H x y v u Q I rx ry ⟨_, _, bor_int bx, bor_int by', k _ H G _ q (Same.refl _) rel (Dn.bl _)⟩

def pSub : P2 := ints2 fun i j R => R (.int (i - j))
def pMul : P2 := fun x y R => match x, y with
  | .int i, .int j => (CMul i j ∨ CMulW i j) ∧ R (.int (i * j))
  | .list xs, .int k => 0 ≤ k ∧ xs.length * k.toNat ≤ 1000000 ∧ k < 1000000 ∧ R (.list (List.replicate k.toNat xs).flatten)
  | _, _ => False
def pDiv : P2 := ints2 fun i j R => (0 < j ∧ j.natAbs.log2 < 9000) ∧ R (.int (i / j))
def pMod : P2 := ints2 fun i j R => 0 < j ∧ R (.int (i % j))
def pPow : P2 := ints2 fun i j R => CPow i j ∧ R (.int (i ^ j.toNat))
def pShl : P2 := ints2 fun i j R => CPow i j ∧ R (.int (i * 2 ^ j.toNat))
def pAnd : P2 := ints2 fun i j R => R (.int (Builtin.bitAnd i j))
def pOr : P2 := ints2 fun i j R => R (.int (Builtin.bitOr i j))
def pLt : P2 := fun x y R => match x, y with
  | .int i, .int j => R (.bool (decide (i < j)))
  | _, _ => False
def pLe : P2 := ints2 fun i j R => R (.bool (decide (i ≤ j)))
def pGt : P2 := ints2 fun i j R => R (.bool (decide (j < i)))
def pGe : P2 := ints2 fun i j R => R (.bool (decide (j ≤ i)))
def pAdd : P2 := fun x y R => match x, y with
  | .int i, .int j => R (.int (i + j))
  | .str a, .str b => a.length + b.length ≤ 1000000 ∧ R (.str (a ++ b))
  | .tuple xs, .tuple ys => xs.length + ys.length ≤ 1000000 ∧ R (.tuple (xs ++ ys))
  | .list xs, .list ys => xs.length + ys.length ≤ 1000000 ∧ R (.list (xs ++ ys))
  | _, _ => False
theorem million {n : Nat} (h : n ≤ 1000000) : n ≤ sizeLine := by rw [sizeLine_eq]; omega
theorem d_sub : OpD X (binaryOp .Sub) pSub := opd_ints0 op_sub
theorem d_div : OpD X (binaryOp .FloorDiv) pDiv := opd_ints op_fdivW fun i j R h => h
theorem d_mod : OpD X (binaryOp .Mod) pMod := opd_ints op_mod fun i j R h => h
theorem d_pow : OpD X (binaryOp .Pow) pPow := opd_ints op_pow fun i j R h => h
theorem d_le : OpD X (compareOp .LtE) pLe := opd_bools op_le
theorem d_gt : OpD X (compareOp .Gt) pGt := opd_bools op_gt
theorem d_ge : OpD X (compareOp .GtE) pGe := opd_bools op_ge
theorem DnL.nil_iff {K : PySem.W.Frag} {G : Hp} {vs : List V} {ds : List PyData} (t : DnL K G vs ds) : vs = [] ↔ ds = [] := by
  cases t with
  | nil => simp
  | cons a b => simp
theorem d_add : OpD X (binaryOp .Add) pAdd := by
  intro pins s σ H x y v u Q I rx ry ⟨B, G, δ, σ', dx, dy, R, rel, bx, by', q, k⟩
  cases dx <;> cases dy <;> first | exact False.elim q | skip
  · exact op_add pins s σ H x y v u Q I rx ry ⟨_, _, bor_int bx, bor_int by', k _ H G _ q (Same.refl _) rel (Dn.int _)⟩
  · exact op_add_str pins s σ H x y v u Q I rx ry ⟨_, _, bor_str bx, bor_str by', million q.1, k _ H G _ q.2 (Same.refl _) rel (Dn.str _)⟩
  · obtain ⟨a, xs, rfl, ha, ta⟩ := bor_lst rel bx
    obtain ⟨b, ys, rfl, hb, tb⟩ := bor_lst rel by'
    refine op_cat pins s σ H _ _ v u Q I rx ry ⟨a, b, xs, ys, rfl, rfl, ha, hb, by rw [ta.len, tb.len]; exact million q.1, fun p np => ?_⟩
    obtain ⟨rel3, s3⟩ := rel.laid (o := .lst (xs ++ ys)) np
    exact k _ _ _ _ q.2 s3 rel3 (Dn.lst upd_same ((ta.app tb).mono s3))
  · obtain ⟨a, xs, rfl, ha, ta⟩ := bor_tupS bx
    obtain ⟨b, ys, rfl, hb, tb⟩ := bor_tupS by'
    refine op_catA pins s σ H _ _ v u Q I rx ry ⟨a, b, xs, ys, rfl, rfl, sqT_mono rel.sg (SqT.of ha), sqT_mono rel.sg (SqT.of hb), by rw [ta.len, tb.len]; exact million q.1, fun e => ?_, fun e e2 => ?_, fun e1 e2 p np => ?_⟩
    · have e' := ta.nil_iff.mp e
      subst e e'
      exact k _ H G _ q.2 (Same.refl _) rel (Dn.tup hb (by simpa using tb))
    · have e' := tb.nil_iff.mp e2
      subst e2 e'
      exact k _ H G _ q.2 (Same.refl _) rel (Dn.tup ha (by simpa using ta))
    · obtain ⟨rel3, s3⟩ := rel.laid (o := .tup (xs ++ ys)) np
      exact k _ _ _ _ q.2 s3 rel3 (Dn.tup upd_same ((ta.app tb).mono s3))
theorem DnL.rep {K : PySem.W.Frag} {G : Hp} {vs : List V} {ds : List PyData} (t : DnL K G vs ds) : ∀ n : Nat, DnL K G (List.replicate n vs).flatten (List.replicate n ds).flatten
  | 0 => .nil
  | n + 1 => by
    rw [List.replicate_succ, List.replicate_succ, List.flatten_cons, List.flatten_cons]
    exact t.app (DnL.rep t n)
theorem d_mul : OpD X (binaryOp .Mult) pMul := by
  intro pins s σ H x y v u Q I rx ry ⟨B, G, δ, σ', dx, dy, R, rel, bx, by', q, k⟩
  cases dx <;> cases dy <;> first | exact False.elim q | skip
  · rcases q.1 with c | c
    · exact op_mul pins s σ H x y v u Q I rx ry ⟨_, _, bor_int bx, bor_int by', c, k _ H G _ q.2 (Same.refl _) rel (Dn.int _)⟩
    · exact op_mulW pins s σ H x y v u Q I rx ry ⟨_, _, bor_int bx, bor_int by', c, k _ H G _ q.2 (Same.refl _) rel (Dn.int _)⟩
  · obtain ⟨a, xs, rfl, ha, ta⟩ := bor_lst rel bx
    obtain ⟨q0, q1, q2, q3⟩ := q
    refine op_rep pins s σ H _ _ v u Q I rx ry ⟨a, _, xs, rfl, bor_int by', ha, by omega, by omega, by rw [ta.len]; exact million q1, fun p np => ?_⟩
    obtain ⟨rel3, s3⟩ := rel.laid (o := .lst _) np
    exact k _ _ _ _ q3 s3 rel3 (Dn.lst upd_same ((ta.rep _).mono s3))
/-- xs + ys that is one's own -/
def pAddL : P2L := fun x y R => match x, y with
  | .list xs, .list ys => xs.length + ys.length ≤ 1000000 ∧ R (xs ++ ys)
  | _, _ => False
theorem d_addL : OpDL X (binaryOp .Add) pAddL := by
  intro pins s σ H x y v u Q I rx ry ⟨B, G, δ, σ', dx, dy, R, rel, bx, by', q, k⟩
  cases dx <;> cases dy <;> first | exact False.elim q | skip
  obtain ⟨a, xs, rfl, ha, ta⟩ := bor_lst rel bx
  obtain ⟨b, ys, rfl, hb, tb⟩ := bor_lst rel by'
  exact op_cat pins s σ H _ _ v u Q I rx ry ⟨a, b, xs, ys, rfl, rfl, ha, hb, by rw [ta.len, tb.len]; exact million q.1, fun p np => k p _ _ G _ q.2 (Same.refl _) (rel.growB np) (rel.freeB np) (ta.app tb)⟩
def pMulL : P2L := fun x y R => match x, y with
  | .list xs, .int k => 0 ≤ k ∧ xs.length * k.toNat ≤ 1000000 ∧ k < 1000000 ∧ R (List.replicate k.toNat xs).flatten
  | _, _ => False
/-- both of one plain kind: compared at once -/
def sc2 : PyData → PyData → Bool
  | .int _, .int _ => true
  | .str _, .str _ => true
  | .bool _, .bool _ => true
  | .none, .none => true
  | _, _ => false
def pEq : P2 := fun x y R => (sc2 x y = true ∨ SeqAt.shaped x = true ∧ SeqAt.shaped y = true) ∧ R (.bool (PyData.eqv x y))
def pNe : P2 := fun x y R => (sc2 x y = true ∨ SeqAt.shaped x = true ∧ SeqAt.shaped y = true) ∧ R (.bool (!PyData.eqv x y))
theorem sc2_eq {K : PySem.W.Frag} {G H : Hp} {x y : V} {dx dy : PyData} (h : sc2 dx dy = true) (bx : Bor K G H x dx) (by' : Bor K G H y dy) : scal x y = true ∧ decide (x = y) = PyData.eqv dx dy := by
  cases dx <;> cases dy <;> first | exact absurd h Bool.false_ne_true | skip
  · obtain rfl := bor_none bx
    obtain rfl := bor_none by'
    exact ⟨rfl, by simp [PyData.eqv]⟩
  · obtain rfl := bor_bool bx
    obtain rfl := bor_bool by'
    refine ⟨rfl, ?_⟩
    rw [dec_bl]; simp [PyData.eqv]
  · obtain rfl := bor_int bx
    obtain rfl := bor_int by'
    refine ⟨rfl, ?_⟩
    rw [dec_int]; simp [PyData.eqv]
  · obtain rfl := bor_str bx
    obtain rfl := bor_str by'
    refine ⟨rfl, ?_⟩
    rw [dec_str]; simp [PyData.eqv]
theorem d_eq (hu : X.A.units + 64 < cLine) : OpD X (compareOp .Eq) pEq := by
  intro pins s σ H x y v u Q I rx ry ⟨B, G, δ, σ', dx, dy, R, rel, bx, by', ⟨c, q⟩, k⟩
  rcases c with c | ⟨q1, q2⟩
  · obtain ⟨h1, h2⟩ := sc2_eq c bx by'
    refine op_eq pins s σ H x y v u Q I rx ry ⟨h1, ?_⟩
    rw [h2]
    exact k _ H G _ q (Same.refl _) rel (Dn.bl _)
  · exact op_eqD hu pins s σ H x y v u Q I rx ry ⟨dx, dy, Dn.dp _ (noDict_of_shaped q1) (bx.dn rel), Dn.dp _ (noDict_of_shaped q2) (by'.dn rel), q1, q2, k _ H G _ q (Same.refl _) rel (Dn.bl _)⟩
theorem d_ne (hu : X.A.units + 64 < cLine) : OpD X (compareOp .NotEq) pNe := by
  intro pins s σ H x y v u Q I rx ry ⟨B, G, δ, σ', dx, dy, R, rel, bx, by', ⟨c, q⟩, k⟩
  rcases c with c | ⟨q1, q2⟩
  · obtain ⟨h1, h2⟩ := sc2_eq c bx by'
    refine op_ne pins s σ H x y v u Q I rx ry ⟨h1, ?_⟩
    rw [h2]
    exact k _ H G _ q (Same.refl _) rel (Dn.bl _)
  · exact op_neD hu pins s σ H x y v u Q I rx ry ⟨dx, dy, Dn.dp _ (noDict_of_shaped q1) (bx.dn rel), Dn.dp _ (noDict_of_shaped q2) (by'.dn rel), q1, q2, k _ H G _ q (Same.refl _) rel (Dn.bl _)⟩
def isNone : PyData → Bool
  | .none => true
  | _ => false
def pIs : P2 := fun x y R => match x, y with
  | x, .none => R (.bool (isNone x))
  | .bool a, .bool b => R (.bool (decide (a = b)))
  | _, _ => False
def pIsNot : P2 := fun x y R => match x, y with
  | x, .none => R (.bool (!isNone x))
  | .bool a, .bool b => R (.bool (!decide (a = b)))
  | _, _ => False
theorem dn_non {K : PySem.W.Frag} {G : Hp} {v : V} {d : PyData} (h : Dn K G v d) : decide (v = V.non) = isNone d := by
  cases h <;> rfl
theorem d_is : OpD X (compareOp .Is) pIs := by
  intro pins s σ H x y v u Q I rx ry ⟨B, G, δ, σ', dx, dy, R, rel, bx, by', q, k⟩
  cases dy with
  | none =>
    refine op_isN pins s σ H x y v u Q I rx ry ⟨bor_none by', ?_⟩
    rw [dn_non (bx.dn rel)]
    have q' : R (.bool (isNone dx)) := by cases dx <;> exact q
    exact k _ H G _ q' (Same.refl _) rel (Dn.bl _)
  | bool b =>
    cases dx <;> first | exact False.elim q | skip
    exact op_isBl pins s σ H x y v u Q I rx ry ⟨_, _, bor_bool bx, bor_bool by', k _ H G _ q (Same.refl _) rel (Dn.bl _)⟩
  | _ => cases dx <;> exact False.elim q
theorem d_isnot : OpD X (compareOp .IsNot) pIsNot := by
  intro pins s σ H x y v u Q I rx ry ⟨B, G, δ, σ', dx, dy, R, rel, bx, by', q, k⟩
  cases dy with
  | none =>
    refine op_notN pins s σ H x y v u Q I rx ry ⟨bor_none by', ?_⟩
    rw [dn_non (bx.dn rel)]
    have q' : R (.bool (!isNone dx)) := by cases dx <;> exact q
    exact k _ H G _ q' (Same.refl _) rel (Dn.bl _)
  | bool b =>
    cases dx <;> first | exact False.elim q | skip
    exact op_notBl pins s σ H x y v u Q I rx ry ⟨_, _, bor_bool bx, bor_bool by', k _ H G _ q (Same.refl _) rel (Dn.bl _)⟩
  | _ => cases dx <;> exact False.elim q
def pIn : P2 := fun x y R => match y with
  | .list ds => SeqAt.shaped x = true ∧ SeqAt.shaped (.list ds) = true ∧ R (.bool (ds.any fun z => PyData.eqv z x))
  | .tuple ds => SeqAt.shaped x = true ∧ SeqAt.shaped (.tuple ds) = true ∧ R (.bool (ds.any fun z => PyData.eqv z x))
  | .str z => ∃ c : Nat, x = .str ⟨#[c]⟩ ∧ R (.bool (decide (c ∈ z.cps.toList)))
  | _ => False
def pNotIn : P2 := fun x y R => match y with
  | .list ds => SeqAt.shaped x = true ∧ SeqAt.shaped (.list ds) = true ∧ R (.bool (!ds.any fun z => PyData.eqv z x))
  | .tuple ds => SeqAt.shaped x = true ∧ SeqAt.shaped (.tuple ds) = true ∧ R (.bool (!ds.any fun z => PyData.eqv z x))
  | .str z => ∃ c : Nat, x = .str ⟨#[c]⟩ ∧ R (.bool (!decide (c ∈ z.cps.toList)))
  | _ => False
theorem d_in (hu : X.A.units + 65 < cLine) : OpD X (compareOp .In) pIn := by
  intro pins s σ H x y v u Q I rx ry ⟨B, G, δ, σ', dx, dy, R, rel, bx, by', q, k⟩
  cases dy with
  | list ds =>
    obtain ⟨q1, q2, q⟩ := q
    exact op_inD hu pins s σ H x y v u Q I rx ry ⟨dx, ds, Dn.dp _ (noDict_of_shaped q1) (bx.dn rel), Dn.dp _ (noDict_of_shaped q2) (by'.dn rel), q1, q2, k _ H G _ q (Same.refl _) rel (Dn.bl _)⟩
  | tuple ds =>
    obtain ⟨q1, q2, q⟩ := q
    obtain ⟨as, r1⟩ := Dp.reads I dx x v (Dn.dp _ (noDict_of_shaped q1) (bx.dn rel)) rx
    obtain ⟨bs, r2⟩ := Dp.reads I (.tuple ds) y u (Dn.dp _ (noDict_of_shaped q2) (by'.dn rel)) ry
    exact SeqAt.in_tuple_reads r2 r1 (by simpa [PyData.canLay0] using SeqAt.canLay_of_shaped q2) (SeqAt.canLay_of_shaped q1) (room_in_shaped q1 hu) ⟨.bl _, H, I, rfl, k _ H G _ q (Same.refl _) rel (Dn.bl _)⟩
  | str z =>
    obtain ⟨c, rfl, q⟩ := q
    exact op_in_sign pins s σ H x y v u Q I rx ry ⟨c, z, bor_str bx, bor_str by', k _ H G _ q (Same.refl _) rel (Dn.bl _)⟩
  | _ => exact False.elim q
theorem d_notIn (hu : X.A.units + 65 < cLine) : OpD X (compareOp .NotIn) pNotIn := by
  intro pins s σ H x y v u Q I rx ry ⟨B, G, δ, σ', dx, dy, R, rel, bx, by', q, k⟩
  cases dy with
  | list ds =>
    obtain ⟨q1, q2, q⟩ := q
    exact op_notInD hu pins s σ H x y v u Q I rx ry ⟨dx, ds, Dn.dp _ (noDict_of_shaped q1) (bx.dn rel), Dn.dp _ (noDict_of_shaped q2) (by'.dn rel), q1, q2, k _ H G _ q (Same.refl _) rel (Dn.bl _)⟩
  | tuple ds =>
    obtain ⟨q1, q2, q⟩ := q
    obtain ⟨as, r1⟩ := Dp.reads I dx x v (Dn.dp _ (noDict_of_shaped q1) (bx.dn rel)) rx
    obtain ⟨bs, r2⟩ := Dp.reads I (.tuple ds) y u (Dn.dp _ (noDict_of_shaped q2) (by'.dn rel)) ry
    exact SeqAt.notIn_tuple_reads r2 r1 (by simpa [PyData.canLay0] using SeqAt.canLay_of_shaped q2) (SeqAt.canLay_of_shaped q1) (room_in_shaped q1 hu) ⟨.bl _, H, I, rfl, k _ H G _ q (Same.refl _) rel (Dn.bl _)⟩
  | str z =>
    obtain ⟨c, rfl, q⟩ := q
    exact op_notIn_sign pins s σ H x y v u Q I rx ry ⟨c, z, bor_str bx, bor_str by', k _ H G _ q (Same.refl _) rel (Dn.bl _)⟩
  | _ => exact False.elim q
def pIx : P2 := fun x y R => match x, y with
  | .list ds, .int i => ∃ z, atI ds i = some z ∧ R z
  | .tuple ds, .int i => ∃ z, atI ds i = some z ∧ R z
  | .str z, .int i => z.length ≤ 1000000 ∧ ∃ c, atI z.cps.toList i = some c ∧ R (.str ⟨#[c]⟩)
  | _, _ => False
theorem DnL.atI {K : PySem.W.Frag} {G : Hp} {vs : List V} {ds : List PyData} {i : Int} {z : PyData} (t : DnL K G vs ds) (h : L2.atI ds i = some z) : ∃ v, L2.atI vs i = some v ∧ Dn K G v z := by
  unfold L2.atI at h ⊢
  rw [t.len]
  cases e : ixN ds.length i with
  | none => rw [e] at h; cases h
  | some j => rw [e] at h; exact t.get h
theorem d_ix : IxD X pIx := by
  have hor := @ix_seq X
  intro ev es pins s σ H x y v u Q I rx ry ⟨B, G, δ, σ', dx, dy, R, rel, bx, by', q, k⟩ hsub
  cases dx <;> cases dy <;> first | exact False.elim q | skip
  · obtain ⟨q1, c, e, q⟩ := q
    exact hor ev es pins s σ H x y v u Q I rx ry (.inr (.inr ⟨_, _, c, bor_str bx, bor_int by', million q1, e, k _ H G _ q (Same.refl _) rel (Dn.str _)⟩)) hsub
  · obtain ⟨a, xs, rfl, ha, ta⟩ := bor_lst rel bx
    obtain ⟨z, e, q⟩ := q
    obtain ⟨w, e2, dw⟩ := ta.atI e
    exact hor ev es pins s σ H _ y v u Q I rx ry (.inl ⟨a, xs, _, w, rfl, bor_int by', SqL.of ha, e2, k _ H G _ q (Same.refl _) rel dw⟩) hsub
  · obtain ⟨a, xs, rfl, ha, ta⟩ := bor_tup bx
    obtain ⟨z, e, q⟩ := q
    obtain ⟨w, e2, dw⟩ := ta.atI e
    exact hor ev es pins s σ H _ y v u Q I rx ry (.inr (.inl ⟨a, xs, _, w, rfl, bor_int by', sqT_mono rel.sg ha, e2, k _ H G _ q (Same.refl _) rel dw⟩)) hsub
def cutD {α : Type} (xs : List α) (lo hi : Option Int) : List α := (xs.drop (HT.sIx xs.length 0 lo)).take (HT.sIx xs.length xs.length hi - HT.sIx xs.length 0 lo)
def pSl : P3 := fun x lo hi R => match x with
  | .list ds => R (.list (cutD ds lo hi))
  | .tuple ds => R (.tuple (cutD ds lo hi))
  | .str z => z.length ≤ 1000000 ∧ R (.str (cutS z lo hi))
  | _ => False
theorem DnL.cut {K : PySem.W.Frag} {G : Hp} {vs : List V} {ds : List PyData} {lo hi : Option Int} (t : DnL K G vs ds) : DnL K G (cutV vs lo hi) (cutD ds lo hi) := by
  unfold cutV cutD
  rw [t.len]
  exact (t.drop _).take _
theorem cutD_whole {α : Type} {xs : List α} {lo hi : Option Int} (h1 : HT.sIx xs.length 0 lo = 0) (h2 : HT.sIx xs.length xs.length hi = xs.length) : cutD xs lo hi = xs := by
  unfold cutD
  rw [h1, h2]; simp
theorem d_sl : SlR X (rOfS X.K pSl) := by
  intro pins s σ H x v vl vu lo hi sl Q I rx hs pl pu ⟨B, G, δ, σ', dx, R, rel, bx, q, k⟩
  cases dx with
  | list ds =>
    obtain ⟨a, xs, rfl, ha, ta⟩ := bor_lst rel bx
    refine sl_list pins s σ H _ v vl vu lo hi sl Q I rx hs pl pu ⟨a, xs, rfl, SqL.of ha, fun p np => ?_⟩
    obtain ⟨rel3, s3⟩ := rel.laid (o := .lst (cutV xs lo hi)) np
    exact k _ _ _ _ q s3 rel3 (Dn.lst upd_same (ta.cut.mono s3))
  | tuple ds =>
    obtain ⟨a, xs, rfl, ha, ta⟩ := bor_tupS bx
    refine sl_tupA pins s σ H _ v vl vu lo hi sl Q I rx hs pl pu ⟨a, xs, rfl, sqT_mono rel.sg (SqT.of ha), fun e => ?_, fun _ p np => ?_⟩
    · have q' : R (.tuple (cutD ds lo hi)) := q
      rw [cutD_whole (by rw [← ta.len]; exact e.1) (by rw [← ta.len]; exact e.2)] at q'
      exact k _ H G _ q' (Same.refl _) rel (Dn.tup ha ta)
    · obtain ⟨rel3, s3⟩ := rel.laid (o := .tup (cutV xs lo hi)) np
      exact k _ _ _ _ q s3 rel3 (Dn.tup upd_same (ta.cut.mono s3))
  | str z => exact sl_str pins s σ H x v vl vu lo hi sl Q I rx hs pl pu ⟨z, bor_str bx, million q.1, k _ H G _ q.2 (Same.refl _) rel (Dn.str _)⟩
  | _ => exact False.elim q
end
end DL
set_option Elab.async false
set_option linter.all false
set_option maxRecDepth 100000
set_option maxHeartbeats 4000000
namespace DL
open PySem PySem.Spec PyProof.Rows L2
variable [Tb]

section
variable {X : Cx}
theorem BorL.one {K : PySem.W.Frag} {G H : Hp} {vs : List V} {d : PyData} (h : BorL K G H vs [d]) : ∃ v, vs = [v] ∧ Bor K G H v d := by
  cases h with | cons a b => cases b; exact ⟨_, rfl, a⟩
theorem BorL.two {K : PySem.W.Frag} {G H : Hp} {vs : List V} {d e : PyData} (h : BorL K G H vs [d, e]) : ∃ v u, vs = [v, u] ∧ Bor K G H v d ∧ Bor K G H u e := by
  cases h with | cons a b => obtain ⟨u, rfl, c⟩ := b.one; exact ⟨_, _, rfl, a, c⟩
/-- a built-in of one argument -/
abbrev one (p : PyData → (PyData → Prop) → Prop) : PN := fun xs R => match xs with
  | [x] => p x R
  | _ => False
abbrev oneL (p : PyData → (List PyData → Prop) → Prop) : List PyData → (List PyData → Prop) → Prop := fun xs R => match xs with
  | [x] => p x R
  | _ => False
abbrev two (p : PyData → PyData → (PyData → Prop) → Prop) : PN := fun xs R => match xs with
  | [x, y] => p x y R
  | _ => False
def pLen : PN := one fun x R => match x with
  | .list ds => R (.int ds.length)
  | .tuple ds => R (.int ds.length)
  | .str z => z.length ≤ 1000000 ∧ R (.int z.length)
  | _ => False
theorem c_len : CallD X (.builtin "len") pLen := by
  intro pins s σ H vs us Q I r ⟨B, G, δ, σ', ds, R, rel, b, q, k⟩
  match ds, q with
  | [d], q =>
    obtain ⟨v, rfl, bd⟩ := b.one
    cases d with
    | list xs =>
      obtain ⟨a, ws, rfl, ha, ta⟩ := bor_lst rel bd
      exact call_len pins s σ H _ us Q I r ⟨_, _, rfl, .inl ⟨ws, SqL.of ha, ta.len.symm⟩, k _ H G _ q (Same.refl _) rel (Dn.int _)⟩
    | tuple xs =>
      obtain ⟨a, ws, rfl, ha, ta⟩ := bor_tup bd
      exact call_len pins s σ H _ us Q I r ⟨_, _, rfl, .inr ⟨ws, sqT_mono rel.sg ha, ta.len.symm⟩, k _ H G _ q (Same.refl _) rel (Dn.int _)⟩
    | str z =>
      obtain rfl := bor_str bd
      exact call_len pins s σ H _ us Q I r ⟨_, _, rfl, ⟨million q.1, rfl⟩, k _ H G _ q.2 (Same.refl _) rel (Dn.int _)⟩
    | _ => exact False.elim q
def pTupOf : PN := one fun x R => match x with
  | .list ds => R (.tuple ds)
  | .tuple ds => R (.tuple ds)
  | _ => False
theorem c_tup : CallD X (.type "tuple") pTupOf := by
  intro pins s σ H vs us Q I r ⟨B, G, δ, σ', ds, R, rel, b, q, k⟩
  match ds, q with
  | [d], q =>
    obtain ⟨v, rfl, bd⟩ := b.one
    cases d with
    | list xs =>
      obtain ⟨a, ws, rfl, ha, ta⟩ := bor_lst rel bd
      refine call_tuple_of pins s σ H _ us Q I r ⟨a, ws, rfl, .inl ⟨SqL.of ha, fun p np => ?_⟩⟩
      obtain ⟨rel3, s3⟩ := rel.laid (o := .tup ws) np
      exact k _ _ _ _ q s3 rel3 (Dn.tup upd_same (ta.mono s3))
    | tuple xs =>
      obtain ⟨a, ws, rfl, ha, ta⟩ := bor_tupS bd
      exact call_tuple_of pins s σ H _ us Q I r ⟨a, ws, rfl, .inr ⟨sqT_mono rel.sg (SqT.of ha), k _ H G _ q (Same.refl _) rel (Dn.tup ha ta)⟩⟩
    | _ => exact False.elim q
def pLstOf : List PyData → (List PyData → Prop) → Prop := oneL fun x R => match x with
  | .list ds => R ds
  | .tuple ds => R ds
  | _ => False
theorem c_lst : CallDL X (.type "list") pLstOf := by
  intro pins s σ H vs us Q I r ⟨B, G, δ, σ', ds, R, rel, b, q, k⟩
  match ds, q with
  | [d], q =>
    obtain ⟨v, rfl, bd⟩ := b.one
    cases d with
    | list xs =>
      obtain ⟨a, ws, rfl, ha, ta⟩ := bor_lst rel bd
      exact call_list_of pins s σ H _ us Q I r ⟨a, ws, rfl, .inl (SqL.of ha), fun p np => k p ws _ G _ q (Same.refl _) (rel.growB np) (rel.freeB np) ta⟩
    | tuple xs =>
      obtain ⟨a, ws, rfl, ha, ta⟩ := bor_tup bd
      exact call_list_of pins s σ H _ us Q I r ⟨a, ws, rfl, .inr (sqT_mono rel.sg ha), fun p np => k p ws _ G _ q (Same.refl _) (rel.growB np) (rel.freeB np) ta⟩
    | _ => exact False.elim q
def pInt : PN := one fun x R => match x with
  | .int i => R (.int i)
  | .bool b => R (.int (if b then 1 else 0))
  | .str z => ∃ n, PySem.intText? z = some n ∧ z.length ≤ 640 ∧ R (.int n)
  | _ => False
theorem c_int : CallD X (.type "int") pInt := by
  intro pins s σ H vs us Q I r ⟨B, G, δ, σ', ds, R, rel, b, q, k⟩
  match ds, q with
  | [d], q =>
    obtain ⟨v, rfl, bd⟩ := b.one
    cases d with
    | int i => obtain rfl := bor_int bd; exact call_int1 pins s σ H _ us Q I r (.inl ⟨i, rfl, k _ H G _ q (Same.refl _) rel (Dn.int _)⟩)
    | bool i => obtain rfl := bor_bool bd; exact call_int1 pins s σ H _ us Q I r (.inr ⟨i, rfl, k _ H G _ q (Same.refl _) rel (Dn.int _)⟩)
    | str z =>
      obtain rfl := bor_str bd
      obtain ⟨n, q1, q2, q3⟩ := q
      exact call_int_str pins s σ H _ us Q I r ⟨z, n, rfl, q1, q2, k _ H G _ q3 (Same.refl _) rel (Dn.int _)⟩
    | _ => exact False.elim q
def pBool : PN := one fun x R => match x with
  | .int i => R (.bool (i != 0))
  | .bool b => R (.bool b)
  | _ => False
def pStr : PN := one fun x R => match x with
  | .int i => i.natAbs.log2 < 1920 ∧ R (.str (toString i))
  | .str z => R (.str z)
  | _ => False
def pAbs : PN := one fun x R => match x with
  | .int i => R (.int (if i < 0 then -i else i))
  | _ => False
theorem c_abs : CallD X (.builtin "abs") pAbs := by
  intro pins s σ H vs us Q I r ⟨B, G, δ, σ', ds, R, rel, b, q, k⟩
  match ds, q with
  | [d], q =>
    obtain ⟨v, rfl, bd⟩ := b.one
    cases d with
    | int i => obtain rfl := bor_int bd; exact call_abs pins s σ H _ us Q I r ⟨i, rfl, k _ H G _ q (Same.refl _) rel (Dn.int _)⟩
    | _ => exact False.elim q
def pMax2 : PN := two fun x y R => match x, y with
  | .int i, .int j => R (.int (if j > i then j else i))
  | _, _ => False
def pMin2 : PN := two fun x y R => match x, y with
  | .int i, .int j => R (.int (if j < i then j else i))
  | _, _ => False
theorem c_max2 (hc : X.calm = true) : CallD X (.builtin "max") pMax2 := by
  intro pins s σ H vs us Q I r ⟨B, G, δ, σ', ds, R, rel, b, q, k⟩
  match ds, q with
  | [d, e], q =>
    obtain ⟨v, u, rfl, bd, be⟩ := b.two
    cases d <;> cases e <;> first | exact False.elim q | skip
    obtain rfl := bor_int bd
    obtain rfl := bor_int be
    exact call_max2 hc pins s σ H _ us Q I r ⟨_, _, rfl, k _ H G _ q (Same.refl _) rel (Dn.int _)⟩
theorem c_min2 (hc : X.calm = true) : CallD X (.builtin "min") pMin2 := by
  intro pins s σ H vs us Q I r ⟨B, G, δ, σ', ds, R, rel, b, q, k⟩
  match ds, q with
  | [d, e], q =>
    obtain ⟨v, u, rfl, bd, be⟩ := b.two
    cases d <;> cases e <;> first | exact False.elim q | skip
    obtain rfl := bor_int bd
    obtain rfl := bor_int be
    exact call_min2 hc pins s σ H _ us Q I r ⟨_, _, rfl, k _ H G _ q (Same.refl _) rel (Dn.int _)⟩
/-- sum, max, min, sorted of ints -/
def pSum : PN := one fun x R => match x with
  | .list ds => ∃ ns : List Int, ds = ns.map PyData.int ∧ R (.int ns.sum)
  | _ => False
def pMax : PN := one fun x R => match x with
  | .list ds => ∃ ns : List Int, ds = ns.map PyData.int ∧ 0 < ns.length ∧ ∀ m, m ∈ ns → (∀ y ∈ ns, y ≤ m) → R (.int m)
  | _ => False
def pMin : PN := one fun x R => match x with
  | .list ds => ∃ ns : List Int, ds = ns.map PyData.int ∧ 0 < ns.length ∧ ∀ m, m ∈ ns → (∀ y ∈ ns, m ≤ y) → R (.int m)
  | _ => False
theorem c_max (hc : X.calm = true) : CallD X (.builtin "max") pMax := by
  intro pins s σ H vs us Q I r ⟨B, G, δ, σ', ds, R, rel, b, q, k⟩
  match ds, q with
  | [d], q =>
    obtain ⟨v, rfl, bd⟩ := b.one
    cases d with
    | list xs =>
      obtain ⟨a, ws, rfl, ha, ta⟩ := bor_lst rel bd
      obtain ⟨ns, rfl, q1, q⟩ := q
      obtain rfl := ta.toInts
      exact cr_max hc pins s σ H _ us Q I r ⟨a, ns, rfl, SqL.of ha, q1, fun m h1 h2 => k _ H G _ (q m h1 h2) (Same.refl _) rel (Dn.int _)⟩
    | _ => exact False.elim q
/-- all, any of a list of truth values -/
def pAll : PN := one fun x R => match x with
  | .list ds => ∃ bs : List Bool, ds = bs.map PyData.bool ∧ R (.bool (bs.all id))
  | _ => False
def pAny : PN := one fun x R => match x with
  | .list ds => ∃ bs : List Bool, ds = bs.map PyData.bool ∧ R (.bool (bs.any id))
  | _ => False
theorem c_any (hc : X.calm = true) : CallD X (.builtin "any") pAny := by
  intro pins s σ H vs us Q I r ⟨B, G, δ, σ', ds, R, rel, b, q, k⟩
  match ds, q with
  | [d], q =>
    obtain ⟨v, rfl, bd⟩ := b.one
    cases d with
    | list xs =>
      obtain ⟨a, ws, rfl, ha, ta⟩ := bor_lst rel bd
      obtain ⟨ns, rfl, q⟩ := q
      obtain rfl := ta.toBools
      exact cr_any hc pins s σ H _ us Q I r ⟨a, ns, rfl, SqL.of ha, k _ H G _ q (Same.refl _) rel (Dn.bl _)⟩
    | _ => exact False.elim q
/-- repr of data without dicts -/
def pRepr : PN := one fun x R => x.showable = true ∧ x.hasDict = false ∧ x.depth ≤ 60 ∧ x.shown.length ≤ 16000000 ∧ R (.str x.shown)
def tyName : PyData → String
  | .none => "NoneType" | .bool _ => "bool" | .int _ => "int" | .str _ => "str" | .list _ => "list" | .tuple _ => "tuple" | .dict [] => "dict" | .dict (_ :: _) => "object"
/-- what isinstance goes by: the library's ways, and a frozen dict of any keys -/
def TyF (K : PySem.W.Frag) (H : Hp) (v : V) (t : Value) : Prop := TyX K H v t ∨ ∃ a o ws, v = .ref a ∧ t = .type "dict" ∧ H a = some (.frz o (.dT ws))
theorem dn_tyX {K : PySem.W.Frag} {H : Hp} {v : V} {d : PyData} (h : Dn K H v d) (hd : tyName d ≠ "object") : TyF K H v (.type (tyName d)) := by
  by_cases z : ∃ a o ws, v = .ref a ∧ Value.type (tyName d) = .type "dict" ∧ H a = some (.frz o (.dT ws))
  · exact .inr z
  refine .inl ?_
  cases h with
  | non => exact .base .non
  | bl b => exact .base (.bl b)
  | int i => exact .base (.int i)
  | str x => exact .base (.str x)
  | lst h t => exact .base (.lst h)
  | tup h t => exact .base (.tup h)
  | dic h n => exact .base (.dK h)
  | ob h k e t => exact absurd rfl hd
  | fK h e t => exact absurd rfl hd
  | fT h e t => exact absurd rfl hd
/-- an object's type, or a frozen dict's -/
theorem dn_tyO {K : PySem.W.Frag} {H : Hp} {v : V} {d : PyData} (h : Dn K H v d) (hd : tyName d = "object") : (∃ n C, ObjK K n C ∧ TyX K H v (.ref C)) ∨ TyF K H v (.type "dict") := by
  cases h with
  | ob h k e t => exact .inl ⟨_, _, k, .base (.ins h k.cl k.ha k.hn k.tk k.mr)⟩
  | fK h e t => exact .inr (.inl (.fDict h))
  | fT h e t => exact .inr (.inr ⟨_, _, _, rfl, rfl, h⟩)
  | _ => exact absurd hd (by simp [tyName])
def rIsiF (K : PySem.W.Frag) : List V → Hp → VK → Prop := fun xs H Q => ∃ (x c : V) (t u : Value) (b : Bool), xs = [x, c] ∧ ClsV c u ∧ TyF K H x t ∧ PySem.W.kitOne K t u = some b ∧ Q (.bl b) H
theorem call_isiF {X : Cx} : CallR X (.builtin "isinstance") (rIsiF X.K) := fun pins s σ H xs us Q I r ⟨x, c, t, u, b, e1, k, ty, e, q⟩ => by
  rcases ty with ty | ⟨a, o, ws, rfl, rfl, ea⟩
  · exact call_isi pins s σ H xs us Q I r ⟨x, c, t, u, b, e1, k, ty, e, q⟩
  · subst e1
    obtain ⟨u1, u2, rfl, r1, r2⟩ := vals2 r
    cases k.eq r2
    cases (show u1 = Value.ref a from r1)
    obtain ⟨_, _, _, _, _, ob, _, _, h1, h2, _⟩ := (show ObjOk X.prog X.w H s.heap a (.frz o (.dT ws)) from I.hok a _ ea)
    exact PySem.W.kia_one PySem.W.kitx_dict I.kIn ⟨ob, h1, h2.1⟩ e (fun z => nomatch z) fun tk => ⟨.bl b, H, I.tok tk, rfl, q⟩
def isTy (T : String) (d : PyData) : Bool := tyName d == T || (T == "int" && tyName d == "bool")
def wIsi (T : String) (w : DE) : DE := fun δ R => w δ fun o δ1 => use o δ1 fun x => R (.d (.bool (isTy T x))) δ1
theorem kit_isTy {K : PySem.W.Frag} {T : String} (hT : T = "int" ∨ T = "bool" ∨ T = "str" ∨ T = "tuple" ∨ T = "list" ∨ T = "dict") (d : PyData) (hd : tyName d ≠ "object") : PySem.W.kitOne K (.type (tyName d)) (.type T) = some (isTy T d) := by
  apply kit_ty
  have all : ∀ n ∈ ["NoneType", "bool", "int", "str", "list", "tuple", "dict"], ∀ T ∈ ["int", "bool", "str", "tuple", "list", "dict"], kitB n T = some (n == T || (T == "int" && n == "bool")) := by decide +kernel
  exact all (tyName d) (by unfold tyName at hd ⊢; split <;> simp_all) T (by simpa using hT)
theorem je_isi {T : String} {e : Expr} {w : DE} {x t : Str} {px pt pos : Pos} (hT : T = "int" ∨ T = "bool" ∨ T = "str" ∨ T = "tuple" ∨ T = "list") (hg : Gl X x) (hm : X.mg x = none) (hv : bootBuiltins x = some (.builtin "isinstance")) (ht : Gl X t) (hmt : X.mg t = none) (hvt : bootBuiltins t = some (.type T)) (he : JE X e w)
    (hn : x ≠ "__name__" := by decide) (hdb : (x == ("__debug__" : Str)) = false := by decide) (hn2 : t ≠ "__name__" := by decide) (hdb2 : (t == ("__debug__" : Str)) = false := by decide)
    (hs1 : starEach [e, .Name t pt] X.env = (false, eval e X.env) :: starEach [.Name t pt] X.env := by rfl) (hs2 : starEach [.Name t pt] X.env = (false, eval (.Name t pt) X.env) :: starEach [] X.env := by rfl)
    (hpl : (backTo pos (starEach [.Name t pt] X.env)).any (·.1) = false := by rfl) :
    JE X (.Call (.Name x px) [e, .Name t pt] [] pos) (wIsi T w) :=
  pe_le (pe_callB call_isiF hg hm hv (pa_cons he (pa_cons (pe_bltn (v := .ty T) ht hmt hvt rfl hn2 hdb2) pa_nil hs2) hs1) hn hdb hs1 hpl) fun pins s σ H Q I ⟨B, G, δ, R, rel, hw, k⟩ =>
    ⟨B, G, δ, _, rel, hw, fun v H1 G1 o δ1 r1 s1 rel1 ok1 => by
      obtain ⟨d, q, bd⟩ := use_ok rel1 ok1 r1
      by_cases hd : tyName d = "object"
      · have no : isTy T d = false := by
          unfold isTy
          rw [hd]
          rcases hT with rfl | rfl | rfl | rfl | rfl <;> decide
        rw [no] at q
        rcases dn_tyO (bd.dn rel1) hd with ⟨n, C, ok, ty⟩ | ty
        · exact ⟨v, .ty T, _, _, _, rfl, ClsV.ty T, .inl ty, ok.ty T (by rcases hT with rfl | rfl | rfl | rfl | rfl <;> decide), k _ H1 G1 _ δ1 q s1 rel1 (Dn.bl _)⟩
        · refine ⟨v, .ty T, _, _, _, rfl, ClsV.ty T, ty, (?_ : PySem.W.kitOne X.K (.type "dict") (.type T) = some false), k _ H1 G1 _ δ1 q s1 rel1 (Dn.bl _)⟩
          have := kit_isTy (K := X.K) (T := T) (by rcases hT with h | h | h | h | h <;> simp [h]) (.dict []) (by decide)
          rw [show isTy T (.dict []) = false by rcases hT with rfl | rfl | rfl | rfl | rfl <;> decide] at this
          exact this
      · exact ⟨v, .ty T, _, _, _, rfl, ClsV.ty T, dn_tyX (bd.dn rel1) hd, kit_isTy (by rcases hT with h | h | h | h | h <;> simp [h]) d hd, k _ H1 G1 _ δ1 q s1 rel1 (Dn.bl _)⟩⟩
def wRevL (w : DE) : DE := fun δ R => w δ fun o δ1 => use o δ1 fun x => ∃ ds, x = .list ds ∧ R (.d (.list ds.reverse)) δ1
theorem je_glob {x : Str} {v : V} {u : Value} {d : PyData} {pos : Pos} (hg : Gl X x) (hm : X.mg x = some u) (r : RelV v u) (hd : ∀ K G, Dn K G v d) (hdb : (x == ("__debug__" : Str)) = false := by decide) : JE X (.Name x pos) (wC d) := je_c (pe_glob hg hm r hdb) hd
end
end DL
set_option Elab.async false
set_option linter.all false
set_option maxRecDepth 100000
set_option maxHeartbeats 4000000
namespace DL
open PySem PySem.Spec PyProof.Rows L2
variable [Tb]

def bov (B H : Hp) (l : List Addr) : Hp := fun a => if a ∈ l then H a else B a
abbrev DM := DS → (Cell → DS → Prop) → Prop
abbrev DMs := DS → (List Cell → DS → Prop) → Prop
def fps (cs : List Cell) : List Addr := cs.flatMap Cell.fp
inductive CellsOk (K : PySem.W.Frag) (G H : Hp) : List Cell → List V → Prop
  | nil : CellsOk K G H [] []
  | cons {c : Cell} {v : V} {cs : List Cell} {vs : List V} (h : CellOk K G H c (some v)) (hd : ∀ a ∈ c.fp, a ∉ fps cs) (t : CellsOk K G H cs vs) : CellsOk K G H (c :: cs) (v :: vs)
def upMs (K : PySem.W.Frag) (w : DMs) : TA := fun σ H Q => ∃ B G δ R, Rel K B G δ σ H ∧ w δ R ∧ ∀ vs H' G' cs δ', R cs δ' → Same G G' → Rel K (bov B H' (fps cs)) G' δ' σ H' → (∀ a ∈ fps cs, B a = none) → CellsOk K G' H' cs vs → Q vs H'
def upM (K : PySem.W.Frag) (w : DM) : TE := fun σ H Q => ∃ B G δ R, Rel K B G δ σ H ∧ w δ R ∧ ∀ v H' G' c δ', R c δ' → Same G G' → Rel K (bov B H' c.fp) G' δ' σ H' → (∀ a ∈ c.fp, B a = none) → CellOk K G' H' c (some v) → Q v H'
abbrev JM (X : Cx) (e : Expr) (w : DM) : Prop := PE X e (upM X.K w)
abbrev JMs (X : Cx) (es : List Expr) (w : DMs) : Prop := PA X es (upMs X.K w)
theorem bov_nil {B H : Hp} : bov B H [] = B := by funext a; simp [bov]
section
variable {X : Cx} {e : Expr} {es : List Expr} {pos : Pos}
def mE (w : DE) : DM := fun δ R => w δ fun o δ1 => lk o δ1 fun x δ2 => R (.d x) δ2
def mL (w : DL) : DM := fun δ R => w δ fun xs δ1 => ∀ a, R (.ol a xs) δ1
theorem jm_e {w : DE} (h : JE X e w) : JM X e (mE w) := pe_le h fun pins s σ H Q I ⟨B, G, δ, R, rel, hw, k⟩ => ⟨B, G, δ, _, rel, hw, fun v H1 G1 o δ1 r1 s1 rel1 ok1 => by
  obtain ⟨G2, δ2, x, q, s2, rel2, dn⟩ := lk_ok rel1 ok1 r1
  exact k v H1 G2 (.d x) δ2 q (s1.trans s2) (by show Rel X.K (bov B H1 []) G2 δ2 σ H1; rw [bov_nil]; exact rel2) (fun a m => nomatch m) ⟨v, rfl, dn⟩⟩
theorem jm_l {w : DL} (h : JL X e w) : JM X e (mL w) := pe_le h fun pins s σ H Q I ⟨B, G, δ, R, rel, hw, k⟩ => ⟨B, G, δ, _, rel, hw, fun a vs H1 G1 xs δ1 r1 s1 rel1 hB t => by
  have ha : H1 a = some (.lst vs) := rel1.sb _ _ upd_same
  have e : bov B H1 [a] = upd B a (.lst vs) := by
    funext b
    unfold bov upd
    by_cases hb : b = a
    · subst hb; simp [ha]
    · simp [hb]
  exact k (.ref a) H1 G1 (.ol a xs) δ1 (r1 a) s1 (by show Rel X.K (bov B H1 [a]) G1 δ1 σ H1; rw [e]; exact rel1) (fun b m => by rw [List.mem_singleton.mp m]; exact hB) ⟨rfl, vs, ha, t⟩⟩
def msNil : DMs := fun δ R => R [] δ
def msCons (w : DM) (r : DMs) : DMs := fun δ R => w δ fun c δ1 => r δ1 fun cs δ2 => R (c :: cs) δ2
theorem jms_nil : JMs X [] msNil := pa_le pa_nil fun pins s σ H Q I ⟨B, G, δ, R, rel, hw, k⟩ => k [] H G [] δ hw (Same.refl _) (by show Rel X.K (bov B H []) G δ σ H; rw [bov_nil]; exact rel) (fun a m => nomatch m) .nil
theorem jms_cons {w : DM} {r : DMs} (ha : JM X e w) (hr : JMs X es r) (hs : starEach (e :: es) X.env = (false, eval e X.env) :: starEach es X.env := by rfl) : JMs X (e :: es) (msCons w r) :=
  pa_le (pa_cons ha hr hs) fun pins s σ H Q I ⟨B, G, δ, R, rel, hw, k⟩ =>
    ⟨B, G, δ, _, rel, hw, fun v H1 G1 c δ1 r1 s1 rel1 hB1 ok1 => ⟨bov B H1 c.fp, G1, δ1, _, rel1, r1, fun vs H2 G2 cs δ2 r2 s2 rel2 hB2 ok2 => by
      have off : ∀ a ∈ c.fp, a ∉ fps cs := fun a m m2 => by
        have z := hB2 a m2
        unfold bov at z
        rw [if_pos m] at z
        obtain ⟨o, eo⟩ := cell_tr (K := X.K) (G := G1) ok1 m
        rw [eo] at z; cases z
      have same : ∀ a ∈ c.fp, H2 a = H1 a := fun a m => by
        obtain ⟨o, eo⟩ := cell_tr (K := X.K) (G := G1) ok1 m
        have z : bov (bov B H1 c.fp) H2 (fps cs) a = some o := by
          unfold bov
          rw [if_neg (off a m), if_pos m]; exact eo
        rw [rel2.sb _ _ z, eo]
      have eb : bov (bov B H1 c.fp) H2 (fps cs) = bov B H2 (fps (c :: cs)) := by
        funext a
        unfold bov
        by_cases h1 : a ∈ fps cs
        · have h3 : a ∈ fps (c :: cs) := by unfold fps; rw [List.flatMap_cons]; exact List.mem_append_right _ h1
          rw [if_pos h1, if_pos h3]
        · by_cases h2 : a ∈ c.fp
          · have h3 : a ∈ fps (c :: cs) := by unfold fps; rw [List.flatMap_cons]; exact List.mem_append_left _ h2
            rw [if_neg h1, if_pos h2, if_pos h3, same a h2]
          · have h3 : a ∉ fps (c :: cs) := by
              unfold fps; rw [List.flatMap_cons]; intro m
              rcases List.mem_append.mp m with m | m
              · exact h2 m
              · exact h1 m
            rw [if_neg h1, if_neg h2, if_neg h3]
      refine k (v :: vs) H2 G2 (c :: cs) δ2 r2 (s1.trans s2) (eb ▸ rel2) (fun a m => ?_) (.cons (ok1.stay s2 same) off ok2)
      unfold fps at m
      rw [List.flatMap_cons] at m
      rcases List.mem_append.mp m with m | m
      · exact hB1 a m
      · have z := hB2 a m
        unfold bov at z
        split at z
        · rename_i hm
          exact absurd m (off a hm)
        · exact z⟩⟩
end

section
variable {K : PySem.W.Frag} {B G H : Hp} {δ : DS} {σ : L2.St}
theorem Rel.store {c : Cell} {v : V} {i : Nat} {l : List Addr} (R : Rel K (bov B H (c.fp ++ l)) G δ σ H) (hB : ∀ a ∈ c.fp, B a = none) (hl : ∀ a ∈ c.fp, a ∉ l) (ok : CellOk K G H c (some v)) : Rel K (bov B H l) G (δ.set i c) (σ.set i (some v)) H := by
  have tr : ∀ a ∈ c.fp, ∃ o, H a = some o := fun a m => cell_tr ok m
  have bg : ∀ a ∈ c.fp, G a = none := fun a m => by
    rcases R.dj a with z | z
    · exact z
    · obtain ⟨o, eo⟩ := tr a m
      unfold bov at z
      rw [if_pos (List.mem_append_left _ m), eo] at z; cases z
  have bn : ∀ a ∈ c.fp, bov B H l a = none := fun a m => by
    unfold bov; rw [if_neg (hl a m)]; exact hB a m
  have sub : Same (bov B H l) H := fun a o z => by
    unfold bov at z
    split at z
    · exact z
    · by_cases m : a ∈ c.fp
      · rw [hB a m] at z; cases z
      · refine R.sb a o ?_
        unfold bov
        split
        · rename_i hm
          rcases List.mem_append.mp hm with q | q
          · exact absurd q m
          · rename_i hn; exact absurd q hn
        · exact z
  have R' : Rel K (bov B H l) G δ σ H := by
    refine ⟨R.len, R.sg, sub, fun a => ?_, R.ok, R.ap, fun i c' a e m => ?_, ⟨R.tt.t, ⟨fun a o e => ?_, R.tt.n.g⟩⟩⟩
    · rcases R.dj a with z | z
      · exact .inl z
      · by_cases m : a ∈ c.fp
        · exact .inr (bn a m)
        · refine .inr ?_
          unfold bov at z ⊢
          split
          · rename_i hm
            rw [if_pos (List.mem_append_right _ hm)] at z; exact z
          · rename_i hm
            rw [if_neg] at z
            · exact z
            · intro q
              rcases List.mem_append.mp q with q | q
              · exact m q
              · exact hm q
    · obtain ⟨f1, f2⟩ := R.fr i c' a e m
      refine ⟨f1, ?_⟩
      by_cases m2 : a ∈ c.fp
      · exact bn a m2
      · unfold bov at f2 ⊢
        split
        · rename_i hm
          rw [if_pos (List.mem_append_right _ hm)] at f2; exact f2
        · rename_i hm
          rw [if_neg] at f2
          · exact f2
          · intro q
            rcases List.mem_append.mp q with q | q
            · exact m2 q
            · exact hm q
    · unfold bov at e
      split at e
      · rename_i hm
        exact R.tt.n.b a o (by unfold bov; rw [if_pos (List.mem_append_right _ hm)]; exact e)
      · rename_i hm
        by_cases m2 : a ∈ c.fp
        · exact absurd e (by rw [hB a m2]; simp)
        · refine R.tt.n.b a o ?_
          unfold bov
          rw [if_neg fun q => (List.mem_append.mp q).elim m2 hm]
          exact e
  refine R'.set ok fun a m => ⟨⟨bg a m, bn a m⟩, fun j c' hj e m' => ?_⟩
  obtain ⟨_, f2⟩ := R.fr j c' a e m'
  obtain ⟨o, eo⟩ := tr a m
  unfold bov at f2
  rw [if_pos (List.mem_append_left _ m), eo] at f2; cases f2
end

structure DEnds where
  nx : DS → Prop
  rt : PyData → DS → Prop
  bk : DS → Prop := fun _ => False
  ct : DS → Prop := fun _ => False
abbrev DTS := DEnds → DS → Prop
structure EndsOk (K : PySem.W.Frag) (B G : Hp) (E : DEnds) (D : Ends) : Prop where
  nx : ∀ σ' H' G' δ', E.nx δ' → Same G G' → Rel K B G' δ' σ' H' → D.nx σ' H'
  rt : ∀ v σ' H' G' x δ', E.rt x δ' → Same G G' → Rel K B G' δ' σ' H' → Dn K G' v x → D.rt v H'
  bk : ∀ σ' H' G' δ', E.bk δ' → Same G G' → Rel K B G' δ' σ' H' → D.bk σ' H'
  ct : ∀ σ' H' G' δ', E.ct δ' → Same G G' → Rel K B G' δ' σ' H' → D.ct σ' H'
theorem EndsOk.mono {K : PySem.W.Frag} {B G G' : Hp} {E : DEnds} {D : Ends} (h : EndsOk K B G E D) (s : Same G G') : EndsOk K B G' E D :=
  ⟨fun σ' H' G2 δ' r s2 => h.nx σ' H' G2 δ' r (s.trans s2), fun v σ' H' G2 x δ' r s2 => h.rt v σ' H' G2 x δ' r (s.trans s2), fun σ' H' G2 δ' r s2 => h.bk σ' H' G2 δ' r (s.trans s2), fun σ' H' G2 δ' r s2 => h.ct σ' H' G2 δ' r (s.trans s2)⟩
def upS (K : PySem.W.Frag) (w : DTS) : TS := fun D σ H => ∃ B G δ E, Rel K B G δ σ H ∧ w E δ ∧ EndsOk K B G E D
abbrev JS (X : Cx) (st : Stmt) (w : DTS) : Prop := PS X st (upS X.K w)
abbrev JSs (X : Cx) (st : List Stmt) (w : DTS) : Prop := PSs X st (upS X.K w)
section
variable {X : Cx} {st : Stmt} {rest : List Stmt} {e : Expr} {pos : Pos}
theorem ps_le {t t' : TS} (h : PS X st t) (l : ∀ pins s σ H D, Inv X pins σ H s → t' D σ H → t D σ H) : PS X st t' := ⟨fun pins s σ H D I q => h.run pins s σ H D I (l pins s σ H D I q)⟩
theorem pss_le {t t' : TS} (h : PSs X rest t) (l : ∀ pins s σ H D, Inv X pins σ H s → t' D σ H → t D σ H) : PSs X rest t' := ⟨fun pins s σ H D I q => h.run pins s σ H D I (l pins s σ H D I q)⟩
def wNext : DTS := fun E δ => E.nx δ
def wSeq (t u : DTS) : DTS := fun E δ => t { E with nx := u E } δ
theorem jss_nil : JSs X [] wNext := pss_le pss_nil fun pins s σ H D I ⟨B, G, δ, E, rel, hw, k⟩ => k.nx σ H G δ hw (Same.refl _) rel
theorem jss_cons {t u : DTS} (h1 : JS X st t) (h2 : JSs X rest u) : JSs X (st :: rest) (wSeq t u) := pss_le (pss_cons h1 h2) fun pins s σ H D I ⟨B, G, δ, E, rel, hw, k⟩ =>
  ⟨B, G, δ, _, rel, hw, ⟨fun σ' H' G' δ' r s1 rel1 => ⟨B, G', δ', E, rel1, r, k.mono s1⟩, k.rt, k.bk, k.ct⟩⟩
theorem jss_one {t : DTS} (h : JS X st t) : JSs X [st] t := pss_one h
def wBrk : DTS := fun E δ => E.bk δ
def wCnt : DTS := fun E δ => E.ct δ
def wRet (w : DE) : DTS := fun E δ => w δ fun o δ1 => lk o δ1 fun x δ2 => E.rt x δ2
theorem js_ret {w : DE} (h : JE X e w) : JS X (.Return (some e) pos) (wRet w) := ps_le (ps_ret h) fun pins s σ H D I ⟨B, G, δ, E, rel, hw, k⟩ => ⟨B, G, δ, _, rel, hw, fun v H1 G1 o δ1 r1 s1 rel1 ok1 => by
  obtain ⟨G2, δ2, x, q, s2, rel2, dn⟩ := lk_ok rel1 ok1 r1
  exact k.rt v σ H1 G2 x δ2 q (s1.trans s2) rel2 dn⟩
def wRetN : DTS := fun E δ => E.rt .none δ
def wIf (c : DT) (t u : DTS) : DTS := fun E δ => c δ fun b δ1 => if b = true then t E δ1 else u E δ1
theorem js_if {c : Expr} {p q : List Stmt} {tc : DT} {t u : DTS} (hc : JT X c tc) (hp : JSs X p t) (hq : JSs X q u) : JS X (.If c p q pos) (wIf tc t u) := ps_le (ps_if hc hp hq) fun pins s σ H D I ⟨B, G, δ, E, rel, hw, k⟩ => ⟨B, G, δ, _, rel, hw, fun b H1 G1 δ1 r1 s1 rel1 => by
  cases b with
  | true => rw [if_pos rfl] at r1 ⊢; exact ⟨B, G1, δ1, E, rel1, r1, k.mono s1⟩
  | false => rw [if_neg Bool.false_ne_true] at r1 ⊢; exact ⟨B, G1, δ1, E, rel1, r1, k.mono s1⟩⟩
/-- a statement or block that is never come to -/
def wNever : DTS := fun _ _ => False
def wDrop (w : DE) : DTS := fun E δ => w δ fun _ δ1 => E.nx δ1
theorem js_expr {w : DE} (h : JE X e w) (hs : swapsWith e none pos.line X.env = pure false := by rfl) : JS X (.Expr e pos) (wDrop w) := ps_le (ps_expr h hs) fun pins s σ H D I ⟨B, G, δ, E, rel, hw, k⟩ => ⟨B, G, δ, _, rel, hw, fun v H1 G1 o δ1 r1 s1 rel1 ok1 => k.nx σ H1 G1 δ1 r1 s1 rel1⟩
def wSet (i : Nat) (w : DM) : DTS := fun E δ => w δ fun c δ1 => E.nx (δ1.set i c)
theorem js_set {i : Nat} {x : Str} {w : DM} {pos' : Pos} (hN : X.N.Nodup) (hi : X.N[i]? = some x) (hx : Loc X.env.scope x) (he : JM X e w) (hs : swapsWith e (some (.Name x pos')) pos.line X.env = pure false := by rfl) (hf : X.fn x = true ∨ X.env.scope.names.lookup x = some .local := by first | exact .inl rfl | exact .inr rfl | assumption) :
    JS X (.Assign [.Name x pos'] e pos) (wSet i w) := ps_le (ps_set hN hi hx he hs hf) fun pins s σ H D I ⟨B, G, δ, E, rel, hw, k⟩ => ⟨B, G, δ, _, rel, hw, fun v H1 G1 c δ1 r1 s1 rel1 hB ok1 => by
  have R2 := Rel.store (i := i) (l := []) (by rw [List.append_nil]; exact rel1) hB (fun _ _ m => nomatch m) ok1
  rw [bov_nil] at R2
  exact k.nx _ H1 G1 _ r1 s1 R2⟩
/-- a, b = e1, e2 -/
def wPar2 (i j : Nat) (w : DMs) : DTS := fun E δ => w δ fun cs δ1 => ∃ c d, cs = [c, d] ∧ E.nx ((δ1.set i c).set j d)
theorem js_par2 {i j : Nat} {x y : Str} {a b : Expr} {w : DMs} {px py pt : Pos} {kt k2 pt2} (hc : X.calm = true) (hN : X.N.Nodup) (hi : X.N[i]? = some x) (hj : X.N[j]? = some y) (hij : i ≠ j) (hx : X.env.scope.names.lookup x = some .local) (hy : X.env.scope.names.lookup y = some .local) (ha : JMs X [a, b] w)
    (hw : swappedStores [.Tuple [.Name x px, .Name y py] kt pt] (.Tuple [a, b] k2 pt2) X.env = pure (some [x, y]) := by rfl) (hs : swapsWithSole [.Tuple [.Name x px, .Name y py] kt pt] (.Tuple [a, b] k2 pt2) pos.line X.env = pure false := by rfl) :
    JS X (.Assign [.Tuple [.Name x px, .Name y py] kt pt] (.Tuple [a, b] k2 pt2) pos) (wPar2 i j w) := ps_le (ps_par hc hN hi hj hij hx hy ha hw hs) fun pins s σ H D I ⟨B, G, δ, E, rel, hw, k⟩ => ⟨B, G, δ, _, rel, hw, fun vs H1 G1 cs δ1 r1 s1 rel1 hB ok1 => by
  obtain ⟨c, d, rfl, q⟩ := r1
  cases ok1 with
  | cons h1 d1 t1 =>
    cases t1 with
    | cons h2 d2 t2 =>
      cases t2
      rename_i v u
      refine ⟨v, u, rfl, ?_⟩
      have e : fps [c, d] = c.fp ++ (d.fp ++ []) := by simp [fps]
      rw [e] at rel1
      have R2 := Rel.store (i := i) rel1 (fun a m => hB a (by simp [fps, m])) (fun a m => by have := d1 a m; simpa [fps] using this) h1
      have R3 := Rel.store (i := j) R2 (fun a m => hB a (by simp [fps, m])) (fun a m z => nomatch z) h2
      rw [bov_nil] at R3
      exact k.nx _ H1 G1 _ q s1 R3⟩
/-- x op= e -/
def wAug (i : Nat) (p : P2) (w : DE) : DTS := fun E δ => ∃ x, δ[i]? = some (.d x) ∧ w δ fun o δ1 => use o δ1 fun y => p x y fun z => E.nx (δ1.set i (.d z))
theorem js_aug {i : Nat} {x : Str} {w : DE} {op : Operator} {p : P2} {pos' : Pos} (hN : X.N.Nodup) (hi : X.N[i]? = some x) (hx : Loc X.env.scope x) (he : JE X e w) (ho : OpD X (inplaceOp op) p) (hf : X.fn x = true ∨ X.env.scope.names.lookup x = some .local := by first | exact .inl rfl | exact .inr rfl | assumption) :
    JS X (.AugAssign (.Name x pos') op e pos) (wAug i p w) := ps_le (ps_aug hN hi hx he (ti := rOf X.K p) ho hf) fun pins s σ H D I ⟨B, G, δ, E, rel, ⟨d, hd, hw⟩, k⟩ => by
  obtain ⟨o, hσ, v, rfl, dv⟩ := rel.at hd
  refine ⟨v, hσ, B, G, δ, _, rel, hw, fun u H1 G1 o δ1 r1 s1 rel1 ok1 => ?_⟩
  obtain ⟨y, q, by'⟩ := use_ok rel1 ok1 r1
  exact ⟨B, G1, δ1, σ, d, y, _, rel1, .inl (dv.mono s1), by', q, fun z H2 G2 dz rz s2 rel2 dnz => k.nx _ H2 G2 _ rz (s1.trans s2) (rel2.setD dnz)⟩
end
end DL
set_option Elab.async false
set_option linter.all false
set_option maxRecDepth 100000
set_option maxHeartbeats 4000000
namespace DL
open PySem PySem.Spec PyProof.Rows L2
variable [Tb]

abbrev DTG := PyData → DS → (DS → Prop) → Prop
abbrev DTGs := List PyData → DS → (DS → Prop) → Prop
/-- only the slots ts are stored -/
def Only (σ σ' : L2.St) (ts : List Nat) : Prop := ∀ vs : List Nat, (∀ t ∈ ts, t ∈ vs) → wipe σ' vs = wipe σ vs
theorem wipe_set {σ : L2.St} {i : Nat} {o : Option V} : ∀ {vs : List Nat}, i ∈ vs → wipe (σ.set i o) vs = wipe σ vs := by
  intro vs
  induction vs with
  | nil => intro h; cases h
  | cons v vs ih =>
    intro h
    unfold wipe
    by_cases hi : i ∈ vs
    · rw [ih hi]
    · have e : i = v := by
        rcases List.mem_cons.mp h with z | z
        · exact z
        · exact absurd z hi
      subst e
      have out : ∀ (σ : L2.St) (ws : List Nat), i ∉ ws → wipe (σ.set i o) ws = (wipe σ ws).set i o := by
        intro σ ws
        induction ws with
        | nil => intro _; rfl
        | cons w ws ih2 =>
          intro hw
          unfold wipe
          rw [ih2 (fun z => hw (List.mem_cons_of_mem _ z)), List.set_comm _ _ (fun z => hw (by rw [z]; exact List.mem_cons_self ..))]
      rw [out σ vs hi, List.set_set]
theorem Only.refl (σ : L2.St) (ts : List Nat) : Only σ σ ts := fun _ _ => rfl
theorem Only.trans {σ σ1 σ2 : L2.St} {ts us : List Nat} (a : Only σ σ1 ts) (b : Only σ1 σ2 us) : Only σ σ2 (ts ++ us) := fun vs h =>
  (b vs fun t m => h t (List.mem_append_right _ m)).trans (a vs fun t m => h t (List.mem_append_left _ m))
def upG (K : PySem.W.Frag) (ts : List Nat) (g : DTG) : TG := fun v σ H Q => ∃ B G δ x R, Rel K B G δ σ H ∧ Dn K G v x ∧ g x δ R ∧ ∀ σ' H' G' δ', R δ' → Same G G' → Rel K B G' δ' σ' H' → Only σ σ' ts → Q σ' H'
def upGs (K : PySem.W.Frag) (ts : List Nat) (g : DTGs) : TGs := fun vs σ H Q => ∃ B G δ xs R, Rel K B G δ σ H ∧ DnL K G vs xs ∧ g xs δ R ∧ ∀ σ' H' G' δ', R δ' → Same G G' → Rel K B G' δ' σ' H' → Only σ σ' ts → Q σ' H'
abbrev JG (X : Cx) (tg : Expr) (ts : List Nat) (g : DTG) : Prop := PG X tg (upG X.K ts g)
abbrev JGs (X : Cx) (tg : List Expr) (ts : List Nat) (g : DTGs) : Prop := PGs X tg (upGs X.K ts g)
def gN (i : Nat) : DTG := fun x δ R => R (δ.set i (.d x))
def gsNil : DTGs := fun xs δ R => match xs with
  | [] => R δ
  | _ => False
def gsCons (g : DTG) (r : DTGs) : DTGs := fun xs δ R => match xs with
  | x :: xs => g x δ fun δ1 => r xs δ1 R
  | [] => False
def gT (r : DTGs) : DTG := fun x δ R => match x with
  | .tuple xs => r xs δ R
  | _ => False
section
variable {X : Cx} {pos : Pos}
theorem pg_le {tg : Expr} {t t' : TG} (h : PG X tg t) (l : ∀ pins s v σ H Q, Inv X pins σ H s → t' v σ H Q → t v σ H Q) : PG X tg t' := ⟨fun pins s σ H v u Q I r q => h.run pins s σ H v u Q I r (l pins s v σ H Q I q)⟩
theorem pgs_le {tg : List Expr} {t t' : TGs} (h : PGs X tg t) (l : ∀ pins s v σ H Q, Inv X pins σ H s → t' v σ H Q → t v σ H Q) : PGs X tg t' := ⟨fun pins s σ H v u Q I r q => h.run pins s σ H v u Q I r (l pins s v σ H Q I q)⟩
theorem jg_name {i : Nat} {x : Str} (hN : X.N.Nodup) (hi : X.N[i]? = some x) (hx : Loc X.env.scope x) (hf : X.fn x = true ∨ X.env.scope.names.lookup x = some .local := by first | exact .inl rfl | exact .inr rfl | assumption) : JG X (.Name x pos) [i] (gN i) :=
  pg_le (pg_name hN hi hx hf) fun pins s v σ H Q I ⟨B, G, δ, d, R, rel, dn, hw, k⟩ => k _ H G _ hw (Same.refl _) (rel.setD dn) fun vs h => wipe_set (h i (List.mem_singleton.mpr rfl))
theorem jgs_nil : JGs X [] [] gsNil := pgs_le pgs_nil fun pins s v σ H Q I ⟨B, G, δ, d, R, rel, dn, hw, k⟩ => by
  cases dn with
  | nil => exact ⟨rfl, k σ H G δ hw (Same.refl _) rel (Only.refl _ _)⟩
  | cons a b => exact hw.elim
theorem jgs_cons {e : Expr} {es : List Expr} {ts us : List Nat} {g : DTG} {r : DTGs} (h1 : JG X e ts g) (h2 : JGs X es us r) (hs : (assignEach (e :: es) X.env).map (·.2) = assign e X.env :: (assignEach es X.env).map (·.2) := by rfl) : JGs X (e :: es) (ts ++ us) (gsCons g r) :=
  pgs_le (pgs_cons h1 h2 hs) fun pins s v σ H Q I ⟨B, G, δ, d, R, rel, dn, hw, k⟩ => by
    cases dn with
    | nil => exact hw.elim
    | cons a b => exact ⟨_, _, rfl, B, G, δ, _, _, rel, a, hw, fun σ1 H1 G1 δ1 r1 s1 rel1 o1 => ⟨B, G1, δ1, _, _, rel1, b.mono s1, r1, fun σ2 H2 G2 δ2 r2 s2 rel2 o2 => k σ2 H2 G2 δ2 r2 (s1.trans s2) rel2 (o1.trans o2)⟩⟩
theorem jg_tup {es : List Expr} {kk : Nat} {ts : List Nat} {r : DTGs} {n : Nat} (hc : X.calm = true) (h : JGs X es ts r) (hr : ∀ xs δ R, r xs δ R → xs.length = n)
    (hn : (assignEach es X.env).length = n := by rfl) (hst : (assignEach es X.env).findIdx? (·.1) = none := by rfl) : JG X (.Tuple es kk pos) ts (gT r) :=
  pg_le (pg_tup hc h hn hst) fun pins s v σ H Q I ⟨B, G, δ, d, R, rel, dn, hw, k⟩ => by
    cases dn with
    | tup hs ht => exact ⟨_, _, rfl, sqT_mono rel.sg (SqT.of hs), by rw [ht.len]; exact hr _ _ _ hw, B, G, δ, _, R, rel, ht, hw, k⟩
    | _ => exact hw.elim
end
theorem gs_len0 : ∀ xs δ R, gsNil xs δ R → xs.length = 0 := fun xs δ R h => by
  cases xs with
  | nil => rfl
  | cons x xs => exact h.elim
theorem gs_lenN {i : Nat} {r : DTGs} {n : Nat} (h : ∀ xs δ R, r xs δ R → xs.length = n) : ∀ xs δ R, gsCons (gN i) r xs δ R → xs.length = n + 1 := fun xs δ R q => by
  cases xs with
  | nil => exact q.elim
  | cons x xs => rw [List.length_cons, h xs _ R q]
/-- J gives the items, whatever is done meanwhile -/
def WalkD (K : PySem.W.Frag) (J : It) (G : Hp) (xs : List PyData) : Prop := ∀ (B G2 : Hp) (δ : DS) (σ : L2.St) (H : Hp), Same G G2 → Rel K B G2 δ σ H →
  (∀ i, i < xs.length → J.go i H) ∧ J.stop xs.length H ∧ ∀ i x d H', xs[i]? = some d → J.yld i H x H' → ∃ G3, Same G2 G3 ∧ Rel K B G3 δ σ H' ∧ Dn K G3 x d
def upI (K : PySem.W.Frag) (w : DL) : TI := fun σ H R => ∃ B G δ R', Rel K B G δ σ H ∧ w δ R' ∧ ∀ J H' G' xs δ', R' xs δ' → Same G G' → Rel K B G' δ' σ H' → WalkD K J G' xs → xs.length ≤ sizeLine → R J H'
abbrev JI (X : Cx) (tg iter : Expr) (w : DL) : Prop := PI X tg iter (upI X.K w)
section
variable {X : Cx} {tg : Expr} {pos : Pos}
theorem pi_le {iter : Expr} {t t' : TI} (h : PI X tg iter t) (l : ∀ pins s σ H R, Inv X pins σ H s → t' σ H R → t σ H R) : PI X tg iter t' := ⟨fun pins s σ H R I q => h.run pins s σ H R I (l pins s σ H R I q)⟩
theorem walk_of_list {K : PySem.W.Frag} {G : Hp} {a : Addr} {vs : List V} {xs : List PyData} (h : G a = some (.lst vs)) (t : DnL K G vs xs) (inj : ∀ (B G2 : Hp) (δ : DS) (σ : L2.St) (H : Hp), Same G G2 → Rel K B G2 δ σ H → True) : WalkD K (Itl K a) G xs := fun B G2 δ σ H s rel => by
  have hH : SqL K H a vs := SqL.of (rel.sg _ _ (s _ _ h))
  have hl := t.len
  refine ⟨fun i hi => ⟨vs, vs[i]'(by omega), hH, List.getElem?_eq_getElem (by omega)⟩, ⟨vs, hH, by omega⟩, fun i x d H' hd y => ?_⟩
  obtain ⟨rfl, y⟩ := y
  obtain ⟨v, hv, dv⟩ := t.get hd
  have e := y vs hH
  rw [hv] at e; cases e
  exact ⟨G2, Same.refl _, rel, dv.mono s⟩
theorem walk_of_tup {K : PySem.W.Frag} {G : Hp} {a : Addr} {vs : List V} {xs : List PyData} (h : SqT K G a vs) (t : DnL K G vs xs) : WalkD K (Itt K a) G xs := fun B G2 δ σ H s rel => by
  have hH : SqT K H a vs := sqT_mono rel.sg (sqT_mono s h)
  have hl := t.len
  refine ⟨fun i hi => ⟨vs, vs[i]'(by omega), hH, List.getElem?_eq_getElem (by omega)⟩, ⟨vs, hH, by omega⟩, fun i x d H' hd y => ?_⟩
  obtain ⟨rfl, y⟩ := y
  obtain ⟨v, hv, dv⟩ := t.get hd
  have e := y vs hH
  rw [hv] at e; cases e
  exact ⟨G2, Same.refl _, rel, dv.mono s⟩
/-- for x in a tuple, a list -/
def iSeq (w : DE) : DL := fun δ R => w δ fun o δ1 => lk o δ1 fun x δ2 => match x with
  | .tuple xs => R xs δ2
  | .list xs => R xs δ2
  | _ => False
/-- iter of a tuple or a list -/
def iEither (K : PySem.W.Frag) (t : TE) : TI := fun σ H R => t σ H fun x H1 => ∃ a, x = .ref a ∧ ((∃ xs, SqL K H1 a xs ∧ R (Itl K a) H1) ∨ (∃ xs, SqT K H1 a xs ∧ R (Itt K a) H1))
theorem pi_either {l : Expr} {tl : TE} (hl : PE X l tl) : PI X tg l (iEither X.K tl) where
  run pins s σ H R I h := by
    refine wpAny_mono (hl.run pins s σ H _ I h) ?_ fun _ _ z => z
    rintro v ⟨hp, gs, dr, tk, os⟩ ⟨_, H1, I1, r1, a, rfl, q⟩
    cases r1
    have own : ∀ b ∈ [hp.objs.size], FpOk X pins H1 b := List.forall_mem_singleton.mpr (I1.fpOk (Nat.le_refl _) (I1.hok.fresh (Nat.le_refl _)))
    have kept : ∀ {o : Obj} b u, hp.get? b = some u → (hp.push o).get? b = some u := fun _ _ e => Heap.get?_push_of_some _ e
    rcases q with ⟨xs, isL, q⟩ | ⟨xs, isT, q⟩
    · obtain ⟨_, _, at_a, _⟩ := I1.list isL
      exact wpAny_pyIter_list at_a.isList ⟨_, _, _, _, H1, rfl, I1.kept (t' := tk) kept, turn_list a _, ⟨_, Heap.get?_push_size _ rfl, rfl, rfl⟩, own, q⟩
    · obtain ⟨its, _, at_a, _⟩ := I1.tuple isT
      exact wpAny_pyIter_tuple (show hp.IsTuple a its.toArray from at_a) ⟨_, _, _, _, H1, rfl, I1.kept (t' := tk) kept, turn_tuple a _, ⟨_, Heap.get?_push_size _ rfl, rfl, rfl⟩, own, q⟩
/-- what the length of a list or tuple is bounded by -/
theorem piB {l : Expr} {w : DE} (h : JE X l w) : PE X l (fun σ H Q => up X.K w σ H fun v H1 => (∀ a xs, v = .ref a → (SqL X.K H1 a xs ∨ SqT X.K H1 a xs) → xs.length ≤ sizeLine) → Q v H1) where
  run pins s σ H Q I q := wpAny_mono (h.run pins s σ H _ I q) (fun v s1 ⟨x, H1, I1, r1, q1⟩ => ⟨x, H1, I1, r1, q1 fun a xs _ hs => hs.elim (fun z => (I1.list z).elim fun _ z => z.2.2) (fun z => (I1.tuple z).elim fun _ z => z.2.2)⟩) fun _ _ z => z
theorem ji_seq {l : Expr} {w : DE} (h : JE X l w) : JI X tg l (iSeq w) := pi_le (pi_either (piB h)) fun pins s σ H R I ⟨B, G, δ, R', rel, hw, k⟩ => ⟨B, G, δ, _, rel, hw, fun v H1 G1 o δ1 r1 s1 rel1 ok1 hz => by
  obtain ⟨G2, δ2, x, q, s2, rel2, dn⟩ := lk_ok rel1 ok1 r1
  cases dn with
  | lst hs t => exact ⟨_, rfl, .inl ⟨_, SqL.of (rel2.sg _ _ hs), k _ H1 G2 _ δ2 q (s1.trans s2) rel2 (walk_of_list hs t fun _ _ _ _ _ _ _ => trivial) (by rw [← t.len]; exact hz _ _ rfl (.inl (SqL.of (rel2.sg _ _ hs))))⟩⟩
  | tup hs t => exact ⟨_, rfl, .inr ⟨_, sqT_mono rel2.sg (SqT.of hs), k _ H1 G2 _ δ2 q (s1.trans s2) rel2 (walk_of_tup (SqT.of hs) t) (by rw [← t.len]; exact hz _ _ rfl (.inr (sqT_mono rel2.sg (SqT.of hs))))⟩⟩
  | _ => exact q.elim⟩
/-- for i in range(n), range(m, n) -/
def nums (lo : Int) (n : Nat) : List PyData := (List.range n).map fun (i : Nat) => PyData.int (lo + (i : Int))
theorem walk_of_range {K : PySem.W.Frag} {G : Hp} {lo : Int} {n : Nat} : WalkD K (Itr lo n) G (nums lo n) := fun B G2 δ σ H s rel => by
  have hl : (nums lo n).length = n := by simp [nums]
  refine ⟨fun i hi => by rw [hl] at hi; exact hi, by rw [hl]; exact Nat.le_refl _, fun i x d H' hd y => ?_⟩
  obtain ⟨rfl, rfl⟩ := y
  unfold nums at hd
  rw [List.getElem?_map] at hd
  cases e : (List.range n)[i]? with
  | none => rw [e] at hd; cases hd
  | some j =>
    rw [e] at hd
    obtain ⟨h1, h2⟩ := List.getElem?_eq_some_iff.mp e
    rw [List.getElem_range] at h2
    cases hd
    subst h2
    exact ⟨G2, Same.refl _, rel, Dn.int _⟩
def iRange1 (w : DA) : DL := fun δ R => w δ fun os δ1 => useL os δ1 fun xs => ∃ j, xs = [PyData.int j] ∧ -1000000 ≤ j ∧ j ≤ 1000000 ∧ R (nums 0 j.toNat) δ1
def iRange2 (w : DA) : DL := fun δ R => w δ fun os δ1 => useL os δ1 fun xs => ∃ i j, xs = [PyData.int i, PyData.int j] ∧ (-1000000 ≤ i ∧ i ≤ 1000000 ∧ -1000000 ≤ j ∧ j ≤ 1000000) ∧ R (nums i (j - i).toNat) δ1
theorem nums_len {lo : Int} {n : Nat} : (nums lo n).length = n := by simp [nums]
theorem ji_range1 {a : Expr} {w : DA} {p : Pos} (hg : Gl X "range") (hm : X.mg "range" = none) (ha : JA X [a] w) (hs : starEach [a] X.env = [(false, eval a X.env)] := by rfl) : JI X tg (.Call (.Name "range" p) [a] [] pos) (iRange1 w) :=
  pi_le (pi_range1 hg hm ha hs) fun pins s σ H R I ⟨B, G, δ, R', rel, hw, k⟩ => ⟨B, G, δ, _, rel, hw, fun vs H1 G1 os δ1 r1 s1 rel1 ok1 => by
    obtain ⟨xs, ⟨j, rfl, h1, h2, q⟩, b⟩ := useL_ok rel1 ok1 r1
    obtain ⟨v, rfl, bv⟩ := b.one
    obtain rfl := bor_int bv
    exact ⟨j, rfl, by omega, by omega, k _ H1 G1 _ δ1 q s1 rel1 walk_of_range (by rw [nums_len, sizeLine_eq]; omega)⟩⟩
/-- pairs -/
def pairsD : List PyData → List PyData → List PyData
  | x :: xs, y :: ys => .tuple [x, y] :: pairsD xs ys
  | _, _ => []
end
end DL
set_option Elab.async false
set_option linter.all false
set_option maxRecDepth 100000
set_option maxHeartbeats 4000000
namespace DL
open PySem PySem.Spec PyProof.Rows L2
variable [Tb]

def forIt (g : DTG) (b : DTS) : List PyData → DEnds → DS → Prop
  | [], E, δ => E.nx δ
  | x :: xs, E, δ => g x δ fun δ1 => b { nx := forIt g b xs E, rt := E.rt, bk := E.nx, ct := forIt g b xs E } δ1
def wFor (wi : DL) (g : DTG) (b : DTS) : DTS := fun E δ => wi δ fun xs δ1 => forIt g b xs E δ1
section
variable {X : Cx} {pos : Pos}
theorem js_for {tg iter : Expr} {body : List Stmt} {wi : DL} {g : DTG} {b : DTS} {ts : List Nat} (hp : PassesOwn (model X.prog X.w) X.A X.env X.xe) (hc : X.calm = true) (hi : JI X tg iter wi) (hg : JG X tg ts g) (hb : JSs X body b)
    (hs : ∀ x, foldedSetIterable iter X.env x = pure x := by intro _; rfl) : JS X (.For tg iter body [] pos) (wFor wi g b) := ps_le (ps_for hp hc hi hg hb hs) fun pins s σ H D I ⟨B, G, δ, E, rel, hw, k⟩ => by
  refine ⟨B, G, δ, _, rel, hw, fun J H1 G1 xs δ1 r1 s1 rel1 wk hl => ?_⟩
  refine ⟨fun i m σ' H' => m = xs.length - i ∧ i ≤ xs.length ∧ ∃ G2 δ2, Same G1 G2 ∧ Rel X.K B G2 δ2 σ' H' ∧ forIt g b (xs.drop i) E δ2, ⟨xs.length, by simp, Nat.zero_le _, G1, δ1, Same.refl _, rel1, by simpa using r1⟩, ?_⟩
  rintro i m σ2 H2 ⟨rfl, hi', G2, δ2, s2, rel2, q⟩
  obtain ⟨go, stop, yld⟩ := wk B G2 δ2 σ2 H2 s2 rel2
  by_cases hlt : i < xs.length
  · have ed : xs.drop i = xs[i] :: xs.drop (i + 1) := List.drop_eq_getElem_cons hlt
    rw [ed] at q
    refine .inr ⟨go i hlt, fun σ' H' => ∃ G3 δ3, Same G1 G3 ∧ Rel X.K B G3 δ3 σ' H' ∧ forIt g b (xs.drop (i + 1)) E δ3, fun σ' H' ⟨G3, δ3, s3, rel3, q3⟩ => ⟨xs.length - (i + 1), by omega, rfl, hlt, G3, δ3, s3, rel3, q3⟩, fun x H3 y => ?_⟩
    obtain ⟨G3, s3, rel3, dn⟩ := yld i x _ H3 (List.getElem?_eq_getElem hlt) y
    refine ⟨B, G3, δ2, _, _, rel3, dn, q, fun σ4 H4 G4 δ4 r4 s4 rel4 _ => ?_⟩
    have sa := s1.trans (s2.trans (s3.trans s4))
    exact ⟨B, G4, δ4, _, rel4, r4, ⟨fun σ' H' G5 δ5 r5 s5 rel5 => ⟨G5, δ5, s2.trans (s3.trans (s4.trans s5)), rel5, r5⟩, fun v σ' H' G5 x5 δ5 r5 s5 rel5 d5 => k.rt v σ' H' G5 x5 δ5 r5 (sa.trans s5) rel5 d5,
      fun σ' H' G5 δ5 r5 s5 rel5 => k.nx σ' H' G5 δ5 r5 (sa.trans s5) rel5, fun σ' H' G5 δ5 r5 s5 rel5 => ⟨G5, δ5, s2.trans (s3.trans (s4.trans s5)), rel5, r5⟩⟩⟩
  · have e : i = xs.length := by omega
    subst e
    rw [List.drop_length] at q
    exact .inl ⟨stop, k.nx σ2 H2 G2 δ2 q (s1.trans s2) rel2⟩
def wWhile (c : DT) (b : DTS) : DTS := fun E δ => ∃ W : Nat → DS → Prop, (∃ m, W m δ) ∧ ∀ m δ, W m δ → c δ fun k δ1 => if k = true then b { nx := fun δ' => ∃ m', m' < m ∧ W m' δ', rt := E.rt, bk := E.nx, ct := fun δ' => ∃ m', m' < m ∧ W m' δ' } δ1 else E.nx δ1
theorem js_while {c : Expr} {body : List Stmt} {tc : DT} {b : DTS} (hp : PassesOwn (model X.prog X.w) X.A X.env X.xe) (hc : JT X c tc) (hb : JSs X body b) : JS X (.While c body [] pos) (wWhile tc b) := ps_le (ps_while hp hc hb) fun pins s σ H D I ⟨B, G, δ, E, rel, ⟨W, ⟨m0, w0⟩, turn⟩, k⟩ => by
  refine ⟨fun m σ' H' => ∃ G2 δ2, Same G G2 ∧ Rel X.K B G2 δ2 σ' H' ∧ W m δ2, ⟨m0, G, δ, Same.refl _, rel, w0⟩, ?_⟩
  rintro m σ2 H2 ⟨G2, δ2, s2, rel2, q⟩
  refine ⟨B, G2, δ2, _, rel2, turn m δ2 q, fun kb H3 G3 δ3 r3 s3 rel3 => ?_⟩
  cases kb with
  | false => rw [if_neg Bool.false_ne_true] at r3 ⊢; exact k.nx σ2 H3 G3 δ3 r3 (s2.trans s3) rel3
  | true =>
    rw [if_pos rfl] at r3 ⊢
    have sa := s2.trans s3
    refine ⟨fun σ' H' => ∃ G4 δ4, Same G G4 ∧ Rel X.K B G4 δ4 σ' H' ∧ ∃ m', m' < m ∧ W m' δ4, fun σ' H' ⟨G4, δ4, s4, rel4, m', hm, w4⟩ => ⟨m', hm, G4, δ4, s4, rel4, w4⟩, B, G3, δ3, _, rel3, r3, ?_⟩
    exact ⟨fun σ' H' G5 δ5 r5 s5 rel5 => ⟨G5, δ5, sa.trans s5, rel5, r5⟩, fun v σ' H' G5 x5 δ5 r5 s5 rel5 d5 => k.rt v σ' H' G5 x5 δ5 r5 (sa.trans s5) rel5 d5, fun σ' H' G5 δ5 r5 s5 rel5 => k.nx σ' H' G5 δ5 r5 (sa.trans s5) rel5, fun σ' H' G5 δ5 r5 s5 rel5 => ⟨G5, δ5, sa.trans s5, rel5, r5⟩⟩
end

def wipeD (δ : DS) : List Nat → DS
  | [] => δ
  | v :: vs => (wipeD δ vs).set v .em
def keepC : Cell → Cell
  | .d x => .d x
  | _ => .em
def backD (δ0 δ : DS) : List Nat → DS
  | [] => δ
  | v :: vs => (backD δ0 δ vs).set v (keepC ((δ0[v]?).getD .em))
def compIt (g : DTG) (t : DT) (e : DE) (vs : List Nat) : List PyData → List PyData → DS → (List PyData → DS → Prop) → Prop
  | [], acc, δ, R => R acc δ
  | x :: xs, acc, δ, R => g x δ fun δ1 => t δ1 fun b δ2 => if b = true then e δ2 fun o δ3 => lk o δ3 fun y δ4 => compIt g t e vs xs (acc ++ [y]) (wipeD δ4 vs) R else compIt g t e vs xs acc (wipeD δ2 vs) R
def wComp (wi : DL) (g : DTG) (t : DT) (e : DE) (vs : List Nat) : DL := fun δ R => wi δ fun xs δ1 => compIt g t e vs xs [] (wipeD δ1 vs) fun ys δ2 => R ys (backD δ1 δ2 vs)
def tT : DT := fun δ R => R true δ
abbrev JTs (X : Cx) (es : List Expr) (w : DT) : Prop := PTs X es (upT X.K w)
section
variable {K : PySem.W.Frag} {B G H : Hp} {δ : DS} {σ : L2.St}
theorem Rel.wipe (R : Rel K B G δ σ H) : ∀ vs : List Nat, Rel K B G (wipeD δ vs) (L2.wipe σ vs) H
  | [] => R
  | v :: vs => (Rel.wipe R vs).clear none
theorem wipeD_em {i : Nat} : ∀ {vs : List Nat} {δ : DS}, i ∈ vs → (wipeD δ vs)[i]? = none ∨ (wipeD δ vs)[i]? = some .em
  | [], _, h => by cases h
  | v :: vs, δ, h => by
    unfold wipeD
    by_cases hv : v = i
    · subst hv
      rw [List.getElem?_set]
      simp only [if_true]
      split
      · exact .inr rfl
      · exact .inl rfl
    · rw [List.getElem?_set_ne hv]
      rcases List.mem_cons.mp h with z | z
      · exact absurd z.symm hv
      · exact wipeD_em z
theorem wipe_at {i : Nat} : ∀ {vs : List Nat} {σ : L2.St}, i ∉ vs → (L2.wipe σ vs)[i]? = σ[i]? := fun h => wipe_out h
theorem Rel.unwipe {vs : List Nat} {σ : L2.St} (R : Rel K B G (wipeD δ vs) (L2.wipe σ vs) H) : Rel K B G (wipeD δ vs) σ H := by
  refine ⟨by rw [← R.len, wipe_length], R.sg, R.sb, R.dj, fun i c o e1 e2 => ?_, R.ap, R.fr, R.tt⟩
  by_cases h : i ∈ vs
  · rcases wipeD_em (δ := δ) h with z | z
    · rw [z] at e1; cases e1
    · rw [z] at e1; cases e1; trivial
  · exact R.ok i c o e1 (by rw [wipe_at h]; exact e2)
theorem Rel.back {G0 : Hp} {δ0 : DS} {H0 : Hp} {B0 : Hp} (R : Rel K B G δ σ H) (R0 : Rel K B0 G0 δ0 σ H0) (s : Same G0 G) : ∀ vs : List Nat, Rel K B G (backD δ0 δ vs) σ H
  | [] => R
  | v :: vs => by
    have ih := Rel.back R R0 s vs
    have em : Rel K B G ((backD δ0 δ vs).set v .em) σ H := by
      cases hσ : σ[v]? with
      | some o => exact ih.recell hσ trivial fun a m => nomatch m
      | none =>
        have hl : (backD δ0 δ vs).length ≤ v := by
          rw [← ih.len]; exact List.getElem?_eq_none_iff.mp hσ
        rw [List.set_eq_of_length_le hl]; exact ih
    unfold backD
    cases e : δ0[v]? with
    | none => exact em
    | some c =>
      cases c with
      | d x =>
        obtain ⟨o, hσ, w, rfl, dn⟩ := R0.at e
        exact ih.recell hσ ⟨w, rfl, dn.mono s⟩ fun a m => nomatch m
      | _ => exact em
theorem wipe_wipe (σ : L2.St) (vs : List Nat) : L2.wipe (L2.wipe σ vs) vs = L2.wipe σ vs := by
  have h : ∀ (us : List Nat) (σ : L2.St), (∀ u ∈ us, u ∈ vs) → L2.wipe (L2.wipe σ us) vs = L2.wipe σ vs := by
    intro us
    induction us with
    | nil => intro σ _; rfl
    | cons u us ih =>
      intro σ hu
      show L2.wipe ((L2.wipe σ us).set u none) vs = _
      rw [wipe_set (hu u (List.mem_cons_self ..)), ih σ fun x m => hu x (List.mem_cons_of_mem _ m)]
  exact h vs σ fun _ m => m
end
section
variable {X : Cx} {pos : Pos}
theorem jts_nil : JTs X [] tT := ⟨fun pins s σ H Q I ⟨B, G, δ, R, rel, hw, k⟩ => pts_nil.run pins s σ H Q I (k true H G δ hw (Same.refl _) rel)⟩
theorem jts_one {c : Expr} {t : DT} (h : JT X c t) : JTs X [c] t := pts_one h
theorem comp_up {wi : DL} {g : DTG} {t : DT} {e : DE} {ts vs : List Nat} {K : PySem.W.Frag} {σ : L2.St} {H : Hp} {Q : VK} (hts : ∀ t ∈ ts, t ∈ vs) (h : upL K (wComp wi g t e vs) σ H Q) : tLc (upI K wi) (upG K ts g) (upT K t) (up K e) vs σ H Q := by
  obtain ⟨B, G, δ, R, rel, hw, k⟩ := h
  refine ⟨B, G, δ, _, rel, hw, fun J H1 G1 xs δ1 r1 s1 rel1 wk hl D nD => ?_⟩
  have bD := rel1.freeB nD
  refine ⟨fun i m H' => m = xs.length - i ∧ i ≤ xs.length ∧ ∃ accV accD G2 δ2, Same G1 G2 ∧ Rel K (upd B D (.lst accV)) G2 (wipeD δ2 vs) (wipe σ vs) H' ∧ DnL K G2 accV accD ∧ accV.length ≤ i ∧ compIt g t e vs (xs.drop i) accD (wipeD δ2 vs) (fun ys δ2 => R ys (backD δ1 δ2 vs)),
    ⟨xs.length, by simp, Nat.zero_le _, [], [], G1, δ1, Same.refl _, (rel1.growB nD).wipe vs, .nil, Nat.zero_le _, by simpa using r1⟩, ?_⟩
  rintro i m H2 ⟨rfl, hi, accV, accD, G2, δ2, s2, rel2, dacc, hal, q⟩
  obtain ⟨go, stop, yld⟩ := wk _ G2 _ _ H2 s2 rel2
  by_cases hlt : i < xs.length
  · have ed : xs.drop i = xs[i] :: xs.drop (i + 1) := List.drop_eq_getElem_cons hlt
    rw [ed] at q
    refine .inr ⟨go i hlt, fun H' => ∃ accV accD G3 δ3, Same G1 G3 ∧ Rel K (upd B D (.lst accV)) G3 (wipeD δ3 vs) (wipe σ vs) H' ∧ DnL K G3 accV accD ∧ accV.length ≤ i + 1 ∧ compIt g t e vs (xs.drop (i + 1)) accD (wipeD δ3 vs) (fun ys δ2 => R ys (backD δ1 δ2 vs)),
      fun H' ⟨a1, a2, a3, a4, a5, a6, a7, a8, a9⟩ => ⟨xs.length - (i + 1), by omega, rfl, hlt, a1, a2, a3, a4, a5, a6, a7, a8, a9⟩, fun x H3 y => ?_⟩
    obtain ⟨G3, s3, rel3, dn⟩ := yld i x _ H3 (List.getElem?_eq_getElem hlt) y
    refine ⟨_, G3, _, _, _, rel3, dn, q, fun σ4 H4 G4 δ4 r4 s4 rel4 ho => ?_⟩
    have ew : wipe σ4 vs = wipe σ vs := by rw [ho vs hts, wipe_wipe]
    refine ⟨ew, _, G4, δ4, _, rel4, r4, fun b H5 G5 δ5 r5 s5 rel5 => ?_⟩
    cases b with
    | false =>
      rw [if_neg Bool.false_ne_true] at r5 ⊢
      have R6 := rel5.wipe vs
      rw [ew] at R6
      exact ⟨accV, accD, G5, δ5, s2.trans (s3.trans (s4.trans s5)), R6, DnL.mono (s3.trans (s4.trans s5)) _ dacc, by omega, r5⟩
    | true =>
      rw [if_pos rfl] at r5 ⊢
      refine ⟨_, G5, δ5, _, rel5, r5, fun v H6 G6 o δ6 r6 s6 rel6 ok6 => ?_⟩
      obtain ⟨G7, δ7, z, q7, s7, rel7, dz⟩ := lk_ok rel6 ok6 r6
      refine ⟨accV, rel7.sb _ _ upd_same, by omega, accV ++ [v], accD ++ [z], G7, δ7, s2.trans (s3.trans (s4.trans (s5.trans (s6.trans s7)))), ?_, (DnL.mono (s3.trans (s4.trans (s5.trans (s6.trans s7)))) _ dacc).app (.cons dz .nil), by simp; omega, q7⟩
      have R8 := (rel7.putB (p := D) (o := .lst (accV ++ [v])) upd_same notTE_lst).wipe vs
      rw [upd_upd, ew] at R8
      exact R8
  · have e1 : i = xs.length := by omega
    subst e1
    rw [List.drop_length] at q
    refine .inl ⟨stop, ?_⟩
    exact k D accV H2 G2 accD _ q (s1.trans s2) (rel2.unwipe.back rel1 s2 vs) bD dacc
theorem jl_comp {elt tg iter : Expr} {ifs : List Expr} {scope : Scope} {own : List (Str × Nat)} {wi : DL} {g : DTG} {t : DT} {e : DE} {ts : List Nat} (hc : X.calm = true) (hN : X.N.Nodup) (hi : JI X tg iter wi) (ok : BlkOk X.N X.env.scope scope own) (hts : ∀ t ∈ ts, t ∈ own.map (·.2))
    (hg : ∀ (s : Shared) (H : Hp) (C : Addr) (cl : List (Str × Addr)) (fp : List Addr), JG (X.blk s H scope (compEnvC scope cl C X.env) fp) tg ts g) (ht : ∀ (s : Shared) (H : Hp) (C : Addr) (cl : List (Str × Addr)) (fp : List Addr), JTs (X.blk s H scope (compEnvC scope cl C X.env) fp) ifs t)
    (he : ∀ (s : Shared) (H : Hp) (C : Addr) (cl : List (Str × Addr)) (fp : List Addr), JE (X.blk s H scope (compEnvC scope cl C X.env) fp) elt e) (hs : ∀ x, foldedSetIterable iter X.env x = pure x := by intro _; rfl) :
    JL X (.ListComp elt [⟨tg, iter, ifs, 0⟩] scope pos) (wComp wi g t e (own.map (·.2))) :=
  pe_le (pe_lc hc hN hi ok hg ht he hs) fun _ _ _ _ _ _ h => comp_up hts h
theorem upM_l {w : DL} {K : PySem.W.Frag} {σ : L2.St} {H : Hp} {Q : VK} (h : upM K (mL w) σ H Q) : upL K w σ H Q := by
  obtain ⟨B, G, δ, R, rel, hw, k⟩ := h
  refine ⟨B, G, δ, _, rel, hw, fun a vs H1 G1 xs δ1 r1 s1 rel1 hB t => ?_⟩
  have ha : H1 a = some (.lst vs) := rel1.sb _ _ upd_same
  have e : bov B H1 [a] = upd B a (.lst vs) := by
    funext b
    unfold bov upd
    by_cases hb : b = a
    · subst hb; simp [ha]
    · simp [hb]
  exact k (.ref a) H1 G1 (.ol a xs) δ1 (r1 a) s1 (by show Rel K (bov B H1 [a]) G1 δ1 σ H1; rw [e]; exact rel1) (fun b m => by rw [List.mem_singleton.mp m]; exact hB) ⟨rfl, vs, ha, t⟩
/-- a statement name = value, by the value's way -/
theorem js_asg {st : Stmt} {i : Nat} {te : TE} {w : DM} (h : PS X st (tAsg te (gName i))) (l : ∀ σ H Q, upM X.K w σ H Q → te σ H Q) : JS X st (wSet i w) := ps_le h fun pins s σ H D I ⟨B, G, δ, E, rel, hw, k⟩ => by
  refine l σ H _ ⟨B, G, δ, _, rel, hw, fun v H1 G1 c δ1 r1 s1 rel1 hB ok1 => ?_⟩
  have R2 := Rel.store (i := i) (l := []) (by rw [List.append_nil]; exact rel1) hB (fun _ _ m => nomatch m) ok1
  rw [bov_nil] at R2
  exact k.nx _ H1 G1 _ r1 s1 R2
/-- x = [..], one's own -/
theorem js_setCL {i : Nat} {y : Str} {py spos : Pos} {elt tg iter : Expr} {ifs : List Expr} {scope : Scope} {own : List (Str × Nat)} {wi : DL} {g : DTG} {t : DT} {e : DE} {ts : List Nat} (hc : X.calm = true) (hN : X.N.Nodup) (hy : X.N[i]? = some y) (hyl : X.env.scope.names.lookup y = some .local)
    (hsw : swapsWith (.ListComp elt [⟨tg, iter, ifs, 0⟩] scope pos) (some (.Name y py)) spos.line X.env = pure true) (hi : JI X tg iter wi) (ok : BlkOk X.N X.env.scope scope own) (hts : ∀ t ∈ ts, t ∈ own.map (·.2))
    (hg : ∀ (s : Shared) (H : Hp) (C : Addr) (cl : List (Str × Addr)) (fp : List Addr), JG (X.blk s H scope (compEnvC scope cl C X.env) fp) tg ts g) (ht : ∀ (s : Shared) (H : Hp) (C : Addr) (cl : List (Str × Addr)) (fp : List Addr), JTs (X.blk s H scope (compEnvC scope cl C X.env) fp) ifs t)
    (he : ∀ (s : Shared) (H : Hp) (C : Addr) (cl : List (Str × Addr)) (fp : List Addr), JE (X.blk s H scope (compEnvC scope cl C X.env) fp) elt e) (hs : ∀ x, foldedSetIterable iter X.env x = pure x := by intro _; rfl) :
    JS X (.Assign [.Name y py] (.ListComp elt [⟨tg, iter, ifs, 0⟩] scope pos) spos) (wSet i (mL (wComp wi g t e (own.map (·.2))))) :=
  js_asg (ps_setLc hc hN hy hyl hsw hi ok hg ht he hs) fun σ H Q h => comp_up hts (upM_l h)
def isOl (δ : DS) (i : Nat) : Prop := ∃ a xs, δ[i]? = some (.ol a xs)
def wAppend (i : Nat) (w : DE) : DTS := fun E δ => isOl δ i ∧ w δ fun o δ1 => lk o δ1 fun y δ2 => match δ2[i]? with
  | some (.ol a xs) => xs.length ≤ 1000000 ∧ E.nx (δ2.set i (.ol a (xs ++ [y])))
  | _ => False
theorem js_append {i : Nat} {e : Expr} {x : Str} {w : DE} {px apos cpos : Pos} (hx : PE X (.Name x px) (tVar i)) (he : JE X e w) (hs : swapsWith (.Call (.Attribute (.Name x px) "append" apos) [e] [] cpos) none pos.line X.env = pure false := by rfl) (hsE : starEach [e] X.env = (false, eval e X.env) :: starEach [] X.env := by rfl)
    (hb : PE X (.Call (.Attribute (.Name x px) "append" apos) [e] [] cpos) (tBM X.K "list" rAppend (tVar i) (tCons (up X.K w) tNil))) : JS X (.Expr (.Call (.Attribute (.Name x px) "append" apos) [e] [] cpos) pos) (wAppend i w) :=
  ps_le (ps_expr hb hs) fun pins s σ H D I ⟨B, G, δ, E, rel, ⟨⟨a, xs, hδ⟩, hw⟩, k⟩ => by
    obtain ⟨o, hσ, rfl, vs, ha, t⟩ := rel.at hδ
    refine ⟨.ref a, hσ, .inl ⟨rfl, _, SqL.of ha⟩, B, G, δ, _, rel, hw, fun v H1 G1 o δ1 r1 s1 rel1 ok1 => ?_⟩
    obtain ⟨G2, δ2, y, q, s2, rel2, dn⟩ := lk_ok rel1 ok1 r1
    cases e2 : δ2[i]? with
    | none => rw [e2] at q; exact q.elim
    | some c =>
      rw [e2] at q
      cases c with
      | ol b ys =>
        obtain ⟨o2, hσ2, e3, ws, hb, t2⟩ := rel2.at e2
        rw [hσ] at hσ2
        cases hσ2
        cases e3
        obtain ⟨q1, q2⟩ := q
        refine ⟨a, ws, v, rfl, rfl, hb, by rw [t2.len, sizeLine_eq]; omega, ?_⟩
        exact k.nx _ _ G2 _ q2 (s1.trans s2) (rel2.write e2 (t2.app (.cons dn .nil)))
      | _ => exact q.elim
def wExtend (i : Nat) (w : DE) : DTS := fun E δ => isOl δ i ∧ w δ fun o δ1 => use o δ1 fun y => ∃ ys, y = .list ys ∧ match δ1[i]? with
  | some (.ol a xs) => xs.length + ys.length ≤ 1000000 ∧ E.nx (δ1.set i (.ol a (xs ++ ys)))
  | _ => False
theorem js_extend {i : Nat} {e : Expr} {x : Str} {w : DE} {px apos cpos : Pos} (hx : PE X (.Name x px) (tVar i)) (he : JE X e w) (hs : swapsWith (.Call (.Attribute (.Name x px) "extend" apos) [e] [] cpos) none pos.line X.env = pure false := by rfl) (hsE : starEach [e] X.env = (false, eval e X.env) :: starEach [] X.env := by rfl)
    (hb : PE X (.Call (.Attribute (.Name x px) "extend" apos) [e] [] cpos) (tBM X.K "list" rExtend (tVar i) (tCons (up X.K w) tNil))) : JS X (.Expr (.Call (.Attribute (.Name x px) "extend" apos) [e] [] cpos) pos) (wExtend i w) :=
  ps_le (ps_expr hb hs) fun pins s σ H D I ⟨B, G, δ, E, rel, ⟨⟨a, xs, hδ⟩, hw⟩, k⟩ => by
    obtain ⟨o, hσ, rfl, vs, ha, t⟩ := rel.at hδ
    refine ⟨.ref a, hσ, .inl ⟨rfl, _, SqL.of ha⟩, B, G, δ, _, rel, hw, fun v H1 G1 o δ1 r1 s1 rel1 ok1 => ?_⟩
    obtain ⟨y, ⟨ys, rfl, q⟩, by'⟩ := use_ok rel1 ok1 r1
    obtain ⟨b, zs, rfl, hb, tb⟩ := bor_lst rel1 by'
    cases e2 : δ1[i]? with
    | none => rw [e2] at q; exact q.elim
    | some c =>
      rw [e2] at q
      cases c with
      | ol a' ws =>
        obtain ⟨o2, hσ2, e3, us, hu, t2⟩ := rel1.at e2
        rw [hσ] at hσ2
        cases hσ2
        cases e3
        obtain ⟨q1, q2⟩ := q
        refine ⟨a, b, us, zs, rfl, rfl, hu, hb, by rw [t2.len, tb.len]; exact million q1, ?_⟩
        exact k.nx _ _ G1 _ q2 s1 (rel1.write e2 (t2.app tb))
      | _ => exact q.elim
/-- x[i] = e -/
def wPut (i : Nat) (we wi : DE) : DTS := fun E δ => we δ fun o δ1 => lk o δ1 fun y δ2 => isOl δ2 i ∧ wi δ2 fun oj δ3 => use oj δ3 fun j => match j, δ3[i]? with
  | .int j, some (.ol a xs) => ∃ n, ixN xs.length j = some n ∧ E.nx (δ3.set i (.ol a (xs.set n y)))
  | _, _ => False
theorem js_put {i : Nat} {e j : Expr} {x : Str} {we wi : DE} {px apos : Pos} (hj : JE X j wi) (he : JE X e we)
    (hb : PS X (.Assign [.Subscript (.Name x px) j apos] e pos) (tAsg (up X.K we) (gSub (tVar i) (up X.K wi) rSetL))) : JS X (.Assign [.Subscript (.Name x px) j apos] e pos) (wPut i we wi) :=
  ps_le hb fun pins s σ H D I ⟨B, G, δ, E, rel, hw, k⟩ => ⟨B, G, δ, _, rel, hw, fun v H1 G1 o δ1 r1 s1 rel1 ok1 => by
    obtain ⟨G2, δ2, y, q, s2, rel2, dn⟩ := lk_ok rel1 ok1 r1
    obtain ⟨⟨a, xs, hδ⟩, q⟩ := q
    obtain ⟨o0, hσ, rfl, vs, ha, t⟩ := rel2.at hδ
    refine ⟨.ref a, hσ, B, G2, δ2, _, rel2, q, fun u H3 G3 oj δ3 r3 s3 rel3 ok3 => ?_⟩
    obtain ⟨jd, q3, bj⟩ := use_ok rel3 ok3 r3
    cases jd with
    | int jn =>
      cases e2 : δ3[i]? with
      | none => rw [e2] at q3; exact q3.elim
      | some c =>
        rw [e2] at q3
        cases c with
        | ol a' ws =>
          obtain ⟨o2, hσ2, e3, us, hu, t2⟩ := rel3.at e2
          rw [hσ] at hσ2
          cases hσ2
          cases e3
          obtain ⟨n, hn, q4⟩ := q3
          refine ⟨a, us, jn, n, rfl, bor_int bj, hu, by rw [t2.len]; exact hn, ?_⟩
          exact k.nx _ _ G3 _ q4 (s1.trans (s2.trans s3)) (rel3.write e2 (DnL.set (dn.mono s3) n t2))
        | _ => exact q3.elim
    | _ => exact q3.elim⟩
/-- x.pop() of a list of one's own -/
def wPop (i : Nat) : DE := fun δ R => match δ[i]? with
  | some (.ol a xs) => ∃ y, xs.getLast? = some y ∧ R (.d y) (δ.set i (.ol a xs.dropLast))
  | _ => False
end
end DL
set_option Elab.async false
set_option linter.all false
set_option maxRecDepth 100000
set_option maxHeartbeats 4000000
namespace DL
open PySem PySem.Spec PyProof.Rows L2
variable [Tb]

structure RoomG (k : Nat) (A : Around) : Prop where
  rm : Room k A
  gd : A.guards = some []
theorem RoomG.mono {j k : Nat} {A : Around} (r : RoomG k A) (h : j ≤ k) : RoomG j A := ⟨r.rm.mono h, r.gd⟩
theorem RoomG.deeper {k : Nat} {A : Around} (r : RoomG (k + 1) A) (env : Env) : RoomG k (A.deeper env) := ⟨r.rm.deeper env, r.gd⟩
theorem RoomG.u64 {k : Nat} {A : Around} (r : RoomG k A) : A.units + 64 < cLine := r.rm.units
theorem RoomG.u65 {k : Nat} {A : Around} (r : RoomG k A) : A.units + 65 < cLine := by have := r.rm.un; omega
structure FnG (P : Program) (w : World) (K : PySem.W.Frag) (mg : Str → Option Value) (base : Heap) (CX : CXT) (k : Nat) (f : Addr) (fd : FuncData) (ps : List Str) (sp : Sp) : Prop where
  len (vs : List V) (H : Hp) (Q : VK) (E : XK) (_ : sp vs H Q E) : vs.length = ps.length
  run : ∀ (A : Around) (outer : List Env) (s : Shared) (H : Hp) (args : Args) (us : List Value) (vs : List V) (Q : VK) (E : XK), RoomG k A → Env0 P w K mg base A outer s H →
    BindsTo s fd args (ps.zip us) → Vals vs us → sp vs H Q E → codeAny (model P w) A (.call (.ref f) args) (CR CX outer P w H s Q E) s
section
variable {P : Program} {w : World} {K : PySem.W.Frag} {mg : Str → Option Value} {base : Heap} {CX : CXT}
theorem FnG.mono {j k : Nat} {f : Addr} {fd : FuncData} {ps : List Str} {sp : Sp} (F : FnG P w K mg base CX j f fd ps sp) (h : j ≤ k) : FnG P w K mg base CX k f fd ps sp :=
  ⟨F.len, fun A outer s H args us vs Q E hr => F.run A outer s H args us vs Q E (hr.mono h)⟩
theorem fnG_of {k : Nat} {f : Addr} {name qual : Str} {params : Arguments} {body : List Stmt} {scope : Scope} {dV kV doc pm cdv ct oc : Value} {an od : Option Addr} {osl : Array (Option Value)} {N ps : List Str} {sp : Sp}
    (lk : K.lookup f = some ⟨oc, od, .func (PySem.W.fnOf name qual params body scope dV kV doc pm an cdv ct), osl⟩) (hcd : PySem.W.codeIn K cdv qual = true) (S : FnScope N ps scope) (len : ∀ vs H Q E, sp vs H Q E → vs.length = ps.length)
    (hbody : ∀ (A : Around) (outer : List Env) (s : Shared) (H : Hp) (vs : List V) (Q : VK) (E : XK), RoomG k (A.deeper (envOfC qual scope s.heap.objs.size f cdv)) → sp vs H Q E →
      ∃ t, PSs (cxOf CX P w K mg base N qual scope f cdv A outer s H E) body t ∧ t { nx := fun _ H' => Q .non H', rt := Q } (L2.start N vs) H) : FnG P w K mg base CX (k + 1) f (PySem.W.fnOf name qual params body scope dV kV doc pm an cdv ct) ps sp := by
  refine ⟨len, ?_⟩
  intro A outer s H args us vs Q E room e0 binds r hsp
  have many : vs.length = ps.length := len _ _ _ _ hsp
  have kept : ∀ b o, base.get? b = some o → s.heap.get? b = some o := fun b o e => (e0.bs b o e).1
  have kinds : ∀ y ∈ ps.zip us, scope.names.lookup y.1 = some .local ∨
      (scope.names.lookup y.1 = some .cell ∧ ((cellsFrom (s.heap.objs.size + 1) scope.names []).lookup y.1).isSome = true) := by
    rintro ⟨n, v⟩ m
    rcases S.par n (List.of_mem_zip m).1 with q | q
    · exact .inl q
    · exact .inr ⟨q, PySem.W.cellsFrom_some _ _ _ (.inl q)⟩
  have kin := e0.mod.kin.keeps kept
  refine codeAny_call_function room.rm.depth (kin _ _ lk) rfl S.co S.gen rfl (PySem.W.codeRec_of kin hcd) (binds _ _ _ _ (wpAny_newFunctionEnv_cells S.kind kinds ?_))
  rintro _ rfl s1 made
  obtain ⟨t, body', ht⟩ := hbody A outer s H vs Q E (room.deeper _) hsp
  refine ⟨(e0.mod.nolimit.keeps kept).keeps made.toInCall.keep, codeAny_func (wpAny_mono (body'.run [] s1 (L2.start N vs) H _ (inv_start (CX := CX) (E := E) (N := N) (qual := qual) (f := f) (cd := cdv) S room.rm.hd e0 many r made) ht) ?_ fun _ _ z => z)⟩
  rintro (_ | _ | _ | u) s' g
  · obtain ⟨_, H', J, q⟩ := g; exact ⟨V.non, H', J.os, J.bare, J.base, J.hok, rfl, q⟩
  · exact g.elim fun _ g => g.elim fun _ g => g.2.elim
  · exact g.elim fun _ g => g.elim fun _ g => g.2.elim
  · obtain ⟨v, _, H', J, rv, q⟩ := g; exact ⟨v, H', J.os, J.bare, J.base, J.hok, rv, q⟩
end

abbrev DSp := List Cell → (PyData → List Cell → Prop) → Prop
def liftSp (K : PySem.W.Frag) (sp : DSp) : Sp := fun vs H Q _ => ∃ B G cs R, Rel K B G cs (vs.map some) H ∧ sp cs R ∧ ∀ v H' G' x cs', R x cs' → Same G G' → Rel K B G' cs' (vs.map some) H' → Dn K G' v x → Q v H'
/-- what the arguments' cells are behind the call: data stays, one's own is as the slot tells -/
def outC : List Cell → DS → List Cell
  | [], _ => []
  | .d x :: cs, _ :: δ => .d x :: outC cs δ
  | .em :: cs, _ :: δ => .em :: outC cs δ
  | .scr a ns :: cs, _ :: δ => .scr a ns :: outC cs δ
  | .dx a b c xs n ys :: cs, _ :: δ => .dx a b c xs n ys :: outC cs δ
  | _ :: cs, e :: δ => e :: outC cs δ
  | _, [] => []
def sameIo : List Cell → DS → Prop
  | [], _ => True
  | .ol a _ :: cs, e :: δ => (∃ ys, e = .ol a ys) ∧ sameIo cs δ
  | .dk a b c :: cs, e :: δ => e = .dk a b c ∧ sameIo cs δ
  | .dx .. :: cs, e :: δ => False
  | .xc .. :: cs, e :: δ => False
  | .fv .. :: cs, e :: δ => False
  | .od a _ :: cs, e :: δ => (∃ ys, e = .od a ys) ∧ sameIo cs δ
  | .ob a n _ :: cs, e :: δ => (∃ ys, e = .ob a n ys) ∧ sameIo cs δ
  | .gx t :: cs, e :: δ => (∃ u, e = .gx u ∧ u.hd = t.hd) ∧ sameIo cs δ
  | _ :: cs, _ :: δ => sameIo cs δ
  | _ :: _, [] => False
theorem outC_at : ∀ {cs : List Cell} {δ : DS} {i : Nat} {c : Cell}, sameIo cs δ → (outC cs δ)[i]? = some c → ∃ c0, cs[i]? = some c0 ∧ (((∃ x, c0 = .d x) ∨ c0 = .em ∨ ∃ a ns, c0 = .scr a ns) ∧ c = c0 ∨ (∃ a xs ys, c0 = .ol a xs ∧ c = .ol a ys ∧ δ[i]? = some c) ∨ (∃ a b d, c0 = .dk a b d ∧ c = c0 ∧ δ[i]? = some c) ∨ (∃ a xs ys, c0 = .od a xs ∧ c = .od a ys ∧ δ[i]? = some c) ∨ (∃ a n xs ys, c0 = .ob a n xs ∧ c = .ob a n ys ∧ δ[i]? = some c) ∨ (∃ t u, c0 = .gx t ∧ c = .gx u ∧ u.hd = t.hd ∧ δ[i]? = some c))
  | [], _, _, _, _, h => by simp [outC] at h
  | c0 :: cs, [], _, _, s, h => by cases c0 <;> exact s.elim
  | c0 :: cs, e :: δ, 0, c, s, h => by
    refine ⟨c0, rfl, ?_⟩
    cases c0 with
    | em => simp [outC] at h; exact .inl ⟨.inr (.inl rfl), h.symm⟩
    | scr a ns => simp [outC] at h; exact .inl ⟨.inr (.inr ⟨a, ns, rfl⟩), h.symm⟩
    | dx => exact s.elim
    | xc => exact s.elim
    | fv => exact s.elim
    | d x => simp [outC] at h; exact .inl ⟨.inl ⟨x, rfl⟩, h.symm⟩
    | ol a xs => simp [outC] at h; obtain ⟨⟨ys, e1⟩, _⟩ := s; exact .inr (.inl ⟨a, xs, ys, rfl, by rw [← h, e1], by simp [h]⟩)
    | dk a b d => simp [outC] at h; obtain ⟨e1, _⟩ := s; exact .inr (.inr (.inl ⟨a, b, d, rfl, by rw [← h, e1], by simp [h]⟩))
    | od a xs => simp [outC] at h; obtain ⟨⟨ys, e1⟩, _⟩ := s; exact .inr (.inr (.inr (.inl ⟨a, xs, ys, rfl, by rw [← h, e1], by simp [h]⟩)))
    | ob a n xs => simp [outC] at h; obtain ⟨⟨ys, e1⟩, _⟩ := s; exact .inr (.inr (.inr (.inr (.inl ⟨a, n, xs, ys, rfl, by rw [← h, e1], by simp [h]⟩))))
    | gx t => simp [outC] at h; obtain ⟨⟨u, e1, e2⟩, _⟩ := s; exact .inr (.inr (.inr (.inr (.inr ⟨t, u, rfl, by rw [← h, e1], e2, by simp [h]⟩))))
  | c0 :: cs, e :: δ, i + 1, c, s, h => by
    have s' : sameIo cs δ := by cases c0 <;> first | exact s | exact s.2 | exact s.elim
    have h' : (outC cs δ)[i]? = some c := by cases c0 <;> simpa [outC] using h
    obtain ⟨c1, e1, q⟩ := outC_at s' h'
    refine ⟨c1, by simpa using e1, ?_⟩
    simpa using q
theorem outC_len : ∀ {cs : List Cell} {δ : DS}, sameIo cs δ → (outC cs δ).length = cs.length
  | [], _, _ => rfl
  | c0 :: cs, [], s => by cases c0 <;> exact s.elim
  | c0 :: cs, e :: δ, s => by
    have s' : sameIo cs δ := by cases c0 <;> first | exact s | exact s.2 | exact s.elim
    cases c0 <;> simp [outC, outC_len s']
def endsOf (cs : List Cell) (R : PyData → List Cell → Prop) : DEnds := { nx := fun δ => sameIo cs δ ∧ R .none (outC cs δ), rt := fun x δ => sameIo cs δ ∧ R x (outC cs δ) }
def start0 (n : Nat) (cs : List Cell) : DS := cs ++ List.replicate (n - cs.length) .em
section
variable {P : Program} {w : World} {K : PySem.W.Frag} {mg : Str → Option Value} {base : Heap}
theorem rel_start {B G H : Hp} {cs : List Cell} {vs : List V} {N : List Str} (R : Rel K B G cs (vs.map some) H) : Rel K B G (start0 N.length cs) (L2.start N vs) H := by
  have hl : vs.length = cs.length := by have := R.len; simpa using this
  have get : ∀ {i : Nat} {c : Cell}, (start0 N.length cs)[i]? = some c → cs[i]? = some c ∨ c = Cell.em := fun {i c} e => by
    unfold start0 at e
    by_cases hi : i < cs.length
    · rw [List.getElem?_append_left hi] at e; exact .inl e
    · rw [List.getElem?_append_right (by omega), List.getElem?_replicate] at e
      split at e
      · cases e; exact .inr rfl
      · cases e
  refine ⟨by simp [start0, L2.start, hl], R.sg, R.sb, R.dj, fun i c o e1 e2 => ?_, fun i j c c' a e1 e2 m1 m2 => ?_, fun i c a e m => ?_, R.tt⟩
  · rcases get e1 with q | rfl
    · have hi : i < cs.length := (List.getElem?_eq_some_iff.mp q).1
      unfold L2.start at e2
      rw [List.getElem?_append_left (by rw [List.length_map, hl]; exact hi)] at e2
      exact R.ok i c o q e2
    · trivial
  · rcases get e1 with q1 | rfl
    · rcases get e2 with q2 | rfl
      · exact R.ap i j c c' a q1 q2 m1 m2
      · cases m2
    · cases m1
  · rcases get e with q | rfl
    · exact R.fr i c a q m
    · cases m
theorem rel_end {B G G' H H' : Hp} {cs : List Cell} {vs : List V} {δ : DS} {σ : L2.St} (R0 : Rel K B G cs (vs.map some) H) (R : Rel K B G' δ σ H') (s : Same G G') (io : sameIo cs δ) : Rel K B G' (outC cs δ) (vs.map some) H' := by
  refine ⟨by rw [outC_len io, ← R0.len], R.sg, R.sb, R.dj, fun i c o e1 e2 => ?_, fun i j c c' a e1 e2 m1 m2 => ?_, fun i c a e m => ?_, R.tt⟩
  · obtain ⟨c0, e0, q⟩ := outC_at io e1
    have ok0 := R0.ok i c0 o e0 e2
    rcases q with ⟨h, rfl⟩ | ⟨a, xs, ys, rfl, rfl, ed⟩ | ⟨a, b, d, rfl, rfl, ed⟩ | ⟨a, xs, ys, rfl, rfl, ed⟩ | ⟨a, n, xs, ys, rfl, rfl, ed⟩ | ⟨t, u, rfl, rfl, eh, ed⟩
    · rcases h with ⟨x, rfl⟩ | rfl | ⟨a, ns, rfl⟩
      · obtain ⟨v, e, dn⟩ := ok0; exact ⟨v, e, dn.mono s⟩
      · trivial
      · exact ⟨ok0.1, s.seq ok0.2⟩
    · obtain ⟨o', _, _, r⟩ := R.at ed
      exact ⟨ok0.1, r⟩
    · obtain ⟨o', _, _, r⟩ := R.at ed
      exact ⟨ok0.1, r⟩
    · obtain ⟨o', _, _, r⟩ := R.at ed
      exact ⟨ok0.1, r⟩
    · obtain ⟨o', _, _, r⟩ := R.at ed
      exact ⟨ok0.1, r⟩
    · obtain ⟨o', _, _, r⟩ := R.at ed
      exact ⟨by rw [eh]; exact ok0.1, r⟩
  · obtain ⟨c0, e0, q⟩ := outC_at io e1
    obtain ⟨c1, e3, q'⟩ := outC_at io e2
    have h1 : δ[i]? = some c := by
      rcases q with ⟨h, rfl⟩ | ⟨a, xs, ys, rfl, rfl, ed⟩ | ⟨a, b, d, rfl, rfl, ed⟩ | ⟨a, xs, ys, rfl, rfl, ed⟩ | ⟨a, n, xs, ys, rfl, rfl, ed⟩ | ⟨t, u, rfl, rfl, eh, ed⟩
      · rcases h with ⟨x, rfl⟩ | rfl | ⟨a, ns, rfl⟩ <;> cases m1
      · exact ed
      · exact ed
      · exact ed
      · exact ed
      · exact ed
    have h2 : δ[j]? = some c' := by
      rcases q' with ⟨h, rfl⟩ | ⟨a, xs, ys, rfl, rfl, ed⟩ | ⟨a, b, d, rfl, rfl, ed⟩ | ⟨a, xs, ys, rfl, rfl, ed⟩ | ⟨a, n, xs, ys, rfl, rfl, ed⟩ | ⟨t, u, rfl, rfl, eh, ed⟩
      · rcases h with ⟨x, rfl⟩ | rfl | ⟨a, ns, rfl⟩ <;> cases m2
      · exact ed
      · exact ed
      · exact ed
      · exact ed
      · exact ed
    exact R.ap i j c c' a h1 h2 m1 m2
  · obtain ⟨c0, e0, q⟩ := outC_at io e
    have h1 : δ[i]? = some c := by
      rcases q with ⟨h, rfl⟩ | ⟨a, xs, ys, rfl, rfl, ed⟩ | ⟨a, b, d, rfl, rfl, ed⟩ | ⟨a, xs, ys, rfl, rfl, ed⟩ | ⟨a, n, xs, ys, rfl, rfl, ed⟩ | ⟨t, u, rfl, rfl, eh, ed⟩
      · rcases h with ⟨x, rfl⟩ | rfl | ⟨a, ns, rfl⟩ <;> cases m
      · exact ed
      · exact ed
      · exact ed
      · exact ed
      · exact ed
    exact R.fr i c a h1 m
/-- THE RULE: a def keeps its promise over data, by its body's reading -/
theorem okD {x qual : Str} {st : Stmt} {f : Addr} {fd : FuncData} {N ps : List Str} {k : Nat} {sp : DSp} {wb : DTS} (F : Fun K x qual st f fd) (S : FnScope N ps (defScope st)) (dl : ∀ cs R, sp cs R → cs.length = ps.length)
    (body : ∀ (cdv : Value) (A : Around) (outer : List Env) (s : Shared) (H : Hp) (E : XK), RoomG k (A.deeper (envOfC qual (defScope st) s.heap.objs.size f cdv)) → JSs (cxOf CX0 P w K mg base N qual (defScope st) f cdv A outer s H E).nox (defBody st) wb)
    (rd : ∀ cs R, sp cs R → wb (endsOf cs R) (start0 N.length cs)) : FnG P w K mg base CX0 (k + 1) f fd ps (liftSp K sp) := by
  obtain ⟨oc, od, kV, doc, pm, an, cdv, ct, osl, rfl, lk, hcd⟩ := F.ex
  refine fnG_of lk hcd S (fun vs H Q E ⟨B, G, cs, R, rel, hs, _⟩ => by rw [← dl cs R hs, ← rel.len, List.length_map]) fun A outer s H vs Q E hr ⟨B, G, cs, R, rel, hs, k⟩ => ?_
  refine ⟨_, (body cdv A outer s H E hr).nox, B, G, _, endsOf cs R, rel_start rel, rd cs R hs, ?_⟩
  exact ⟨fun σ' H' G' δ' ⟨io, r⟩ sG rel' => k _ H' G' _ _ r sG (rel_end rel rel' sG io) .non, fun v σ' H' G' x δ' ⟨io, r⟩ sG rel' dn => k v H' G' x _ r sG (rel_end rel rel' sG io) dn, fun _ _ _ _ h => h.elim, fun _ _ _ _ h => h.elim⟩
end

/-- own slots that are handed over (m: which), the other operands given away -/
def lkM : List Bool → List Opd → DS → (List Opd → DS → Prop) → Prop
  | _, [], δ, k => k [] δ
  | m, o :: os, δ, k => if m.headD false = true then lkM m.tail os δ fun r δ' => k (o :: r) δ' else lk o δ fun x δ1 => lkM m.tail os δ1 fun r δ' => k (.d x :: r) δ'
def cellOf (δ : DS) : Opd → Cell
  | .d x => .d x
  | .s i => (δ[i]?).getD .em
def putBack : List Opd → List Cell → DS → DS
  | .s i :: os, c :: cs, δ => putBack os cs (δ.set i c)
  | .d _ :: os, _ :: cs, δ => putBack os cs δ
  | _, _, δ => δ
def slotsOf : List Opd → List Nat
  | [] => []
  | .s i :: os => i :: slotsOf os
  | .d _ :: os => slotsOf os
def wCall (m : List Bool) (sp : DSp) (w : DA) : DE := fun δ R => w δ fun os δ1 => lkM m os δ1 fun os' δ2 => (slotsOf os').Nodup ∧ sp (os'.map (cellOf δ2)) fun x cs => R (.d x) (putBack os' cs δ2)
theorem lkM_ok {K : PySem.W.Frag} {B H : Hp} {σ : L2.St} : ∀ {m : List Bool} {vs : List V} {os : List Opd} {G : Hp} {δ : DS} {k : List Opd → DS → Prop}, Rel K B G δ σ H → OpdsOk K G σ vs os → lkM m os δ k → ∃ G' δ' os', k os' δ' ∧ Same G G' ∧ Rel K B G' δ' σ H ∧ OpdsOk K G' σ vs os'
  | _, _, [], G, δ, k, R, h, q => by cases h; exact ⟨G, δ, [], by simpa [lkM] using q, Same.refl _, R, .nil⟩
  | m, _, o :: os, G, δ, k, R, h, q => by
    cases h with
    | cons a b =>
      unfold lkM at q
      split at q
      · obtain ⟨G1, δ1, os', q1, s1, R1, ok1⟩ := lkM_ok R b q
        exact ⟨G1, δ1, o :: os', q1, s1, R1, .cons (a.mono s1) ok1⟩
      · obtain ⟨G1, δ1, x, q1, s1, R1, d1⟩ := lk_ok R a q
        obtain ⟨G2, δ2, os', q2, s2, R2, ok2⟩ := lkM_ok R1 (b.mono s1) q1
        exact ⟨G2, δ2, .d x :: os', q2, s1.trans s2, R2, .cons (Dn.mono s2 _ d1) ok2⟩
theorem mem_slots {os : List Opd} {i : Nat} : i ∈ slotsOf os ↔ ∃ j : Nat, os[j]? = some (Opd.s i) := by
  induction os with
  | nil => simp [slotsOf]
  | cons o os ih =>
    cases o with
    | d x =>
      simp only [slotsOf, ih]
      constructor
      · rintro ⟨j, e⟩; exact ⟨j + 1, by simpa using e⟩
      · rintro ⟨j, e⟩
        cases j with
        | zero => simp at e
        | succ j => exact ⟨j, by simpa using e⟩
    | s i' =>
      simp only [slotsOf, List.mem_cons, ih]
      constructor
      · rintro (rfl | ⟨j, e⟩)
        · exact ⟨0, rfl⟩
        · exact ⟨j + 1, by simpa using e⟩
      · rintro ⟨j, e⟩
        cases j with
        | zero => simp at e; exact .inl e.symm
        | succ j => exact .inr ⟨j, by simpa using e⟩
theorem slots_uniq {os : List Opd} (h : (slotsOf os).Nodup) : ∀ {j k i : Nat}, os[j]? = some (Opd.s i) → os[k]? = some (Opd.s i) → j = k := by
  induction os with
  | nil => intro j k i e; simp at e
  | cons o os ih =>
    intro j k i e1 e2
    have h' : (slotsOf os).Nodup := by
      cases o with
      | d x => exact h
      | s i' => exact (List.nodup_cons.mp h).2
    cases j with
    | zero =>
      cases k with
      | zero => rfl
      | succ k =>
        simp at e1; subst e1
        exact absurd (mem_slots.mpr ⟨k, by simpa using e2⟩) (List.nodup_cons.mp h).1
    | succ j =>
      cases k with
      | zero =>
        simp at e2; subst e2
        exact absurd (mem_slots.mpr ⟨j, by simpa using e1⟩) (List.nodup_cons.mp h).1
      | succ k => exact congrArg (· + 1) (ih (i := i) h' (by simpa using e1) (by simpa using e2))
theorem opds_at {K : PySem.W.Frag} {G : Hp} {σ : L2.St} : ∀ {vs : List V} {os : List Opd} {j : Nat} {o : Opd}, OpdsOk K G σ vs os → os[j]? = some o → ∃ v, vs[j]? = some v ∧ OpdOk K G σ v o
  | _, [], _, _, h, e => by simp at e
  | _, o :: os, 0, _, h, e => by cases h with | cons a b => simp at e; subst e; exact ⟨_, rfl, a⟩
  | _, o :: os, j + 1, x, h, e => by
    cases h with
    | cons a b =>
      obtain ⟨v, h1, h2⟩ := opds_at (j := j) b (by simpa using e)
      exact ⟨v, by simpa using h1, h2⟩
theorem opds_len {K : PySem.W.Frag} {G : Hp} {σ : L2.St} : ∀ {vs : List V} {os : List Opd}, OpdsOk K G σ vs os → vs.length = os.length
  | _, [], h => by cases h; rfl
  | _, o :: os, h => by cases h with | cons a b => simp [opds_len b]
/-- what a callee must leave as it is: what is kept for others, and the slots' own objects that aren't handed over -/
noncomputable def hold (B H : Hp) (δ : DS) (io : List Nat) : Hp := by
  classical
  exact fun a => if ∃ i c, δ[i]? = some c ∧ a ∈ c.fp ∧ i ∉ io then H a else B a
section
variable {K : PySem.W.Frag} {B G H : Hp} {δ : DS} {σ : L2.St} {io : List Nat} {a : Addr}
theorem hold_in (h : ∃ i c, δ[i]? = some c ∧ a ∈ c.fp ∧ i ∉ io) : hold B H δ io a = H a := by unfold hold; exact if_pos h
theorem hold_out (h : ¬ ∃ i c, δ[i]? = some c ∧ a ∈ c.fp ∧ i ∉ io) : hold B H δ io a = B a := by unfold hold; exact if_neg h
theorem call_rel {vs : List V} {os : List Opd} (R : Rel K B G δ σ H) (ok : OpdsOk K G σ vs os) (nd : (slotsOf os).Nodup) : Rel K (hold B H δ (slotsOf os)) G (os.map (cellOf δ)) (vs.map some) H := by
  have getc : ∀ {j : Nat} {c : Cell}, (os.map (cellOf δ))[j]? = some c → ∃ o, os[j]? = some o ∧ c = cellOf δ o := fun {j c} e => by
    rw [List.getElem?_map] at e
    cases h : os[j]? with
    | none => rw [h] at e; cases e
    | some o => rw [h] at e; cases e; exact ⟨o, rfl, rfl⟩
  have own : ∀ {j : Nat} {c : Cell} {a : Addr}, (os.map (cellOf δ))[j]? = some c → a ∈ c.fp → ∃ i, os[j]? = some (.s i) ∧ δ[i]? = some c := fun {j c a} e m => by
    obtain ⟨o, e1, rfl⟩ := getc e
    cases o with
    | d x => cases m
    | s i =>
      refine ⟨i, e1, ?_⟩
      have m' : a ∈ ((δ[i]?).getD Cell.em).fp := m
      show δ[i]? = some ((δ[i]?).getD Cell.em)
      cases h : δ[i]? with
      | none => rw [h] at m'; cases m'
      | some c => rfl
  refine ⟨by simp [opds_len ok], R.sg, fun a o e => ?_, fun a => ?_, fun j c o e1 e2 => ?_, fun j k c c' a e1 e2 m1 m2 => ?_, fun j c a e m => ?_, ⟨R.tt.t, ⟨fun a o e => ?_, R.tt.n.g⟩⟩⟩
  · by_cases h : ∃ i c, δ[i]? = some c ∧ a ∈ c.fp ∧ i ∉ slotsOf os
    · rw [hold_in h] at e; exact e
    · rw [hold_out h] at e; exact R.sb _ _ e
  · by_cases h : ∃ i c, δ[i]? = some c ∧ a ∈ c.fp ∧ i ∉ slotsOf os
    · obtain ⟨i, c, h1, h2, _⟩ := h
      exact .inl (R.fr i c a h1 h2).1
    · rw [hold_out h]; exact R.dj a
  · obtain ⟨od, e3, rfl⟩ := getc e1
    obtain ⟨v, e4, okv⟩ := opds_at ok e3
    rw [List.getElem?_map, e4] at e2
    cases e2
    cases od with
    | d x => exact ⟨v, rfl, okv⟩
    | s i =>
      have hσ : σ[i]? = some (some v) := okv
      show CellOk K G H ((δ[i]?).getD Cell.em) (some v)
      cases h : δ[i]? with
      | none => trivial
      | some c => exact R.ok i c _ h hσ
  · obtain ⟨i, h1, h2⟩ := own e1 m1
    obtain ⟨i', h3, h4⟩ := own e2 m2
    have := R.ap i i' c c' a h2 h4 m1 m2
    subst this
    exact slots_uniq nd h1 h3
  · obtain ⟨i, h1, h2⟩ := own e m
    obtain ⟨f1, f2⟩ := R.fr i c a h2 m
    refine ⟨f1, ?_⟩
    rw [hold_out]
    · exact f2
    · rintro ⟨i', c', h3, h4, h5⟩
      have := R.ap i i' c c' a h2 h3 m h4
      subst this
      exact h5 (mem_slots.mpr ⟨j, h1⟩)
  · by_cases h : ∃ i c, δ[i]? = some c ∧ a ∈ c.fp ∧ i ∉ slotsOf os
    · rw [hold_in h] at e
      obtain ⟨i, c, h1, h2, _⟩ := h
      obtain ⟨ov, _, okc⟩ := R.at h1
      exact cell_te okc h2 o e
    · rw [hold_out h] at e; exact R.tt.n.b _ _ e
theorem putBack_at : ∀ {os : List Opd} {cs : List Cell} {δ : DS} {i : Nat} {c : Cell}, os.length = cs.length → (slotsOf os).Nodup → (putBack os cs δ)[i]? = some c → (i ∉ slotsOf os ∧ δ[i]? = some c) ∨ ∃ j : Nat, os[j]? = some (Opd.s i) ∧ cs[j]? = some c
  | [], cs, δ, i, c, hl, nd, h => by unfold putBack at h; exact .inl ⟨(fun m => nomatch m), h⟩
  | o :: os, [], δ, i, c, hl, nd, h => by simp at hl
  | .d x :: os, c0 :: cs, δ, i, c, hl, nd, h => by
    rcases putBack_at (os := os) (cs := cs) (by simpa using hl) nd (by simpa [putBack] using h) with ⟨h1, h2⟩ | ⟨j, h1, h2⟩
    · exact .inl ⟨h1, h2⟩
    · exact .inr ⟨j + 1, by simpa using h1, by simpa using h2⟩
  | .s i0 :: os, c0 :: cs, δ, i, c, hl, nd, h => by
    rcases putBack_at (os := os) (cs := cs) (by simpa using hl) (List.nodup_cons.mp nd).2 (by simpa [putBack] using h) with ⟨h1, h2⟩ | ⟨j, h1, h2⟩
    · by_cases hi : i0 = i
      · subst hi
        rw [List.getElem?_set] at h2
        simp only [if_true] at h2
        split at h2
        · cases h2; exact .inr ⟨0, rfl, rfl⟩
        · cases h2
      · rw [List.getElem?_set_ne hi] at h2
        exact .inl ⟨fun m => by rcases List.mem_cons.mp m with z | z; exact hi z.symm; exact h1 z, h2⟩
    · exact .inr ⟨j + 1, by simpa using h1, by simpa using h2⟩
theorem putBack_len : ∀ {os : List Opd} {cs : List Cell} {δ : DS}, (putBack os cs δ).length = δ.length
  | [], cs, δ => by simp [putBack]
  | .d _ :: os, [], δ => by rfl
  | .s _ :: os, [], δ => by rfl
  | .d _ :: os, c :: cs, δ => by simp [putBack, putBack_len]
  | .s _ :: os, c :: cs, δ => by simp [putBack, putBack_len]
theorem call_back {G' H' : Hp} {vs : List V} {os : List Opd} {cs : List Cell} (R : Rel K B G δ σ H) (ok : OpdsOk K G σ vs os) (nd : (slotsOf os).Nodup) (s : Same G G') (R' : Rel K (hold B H δ (slotsOf os)) G' cs (vs.map some) H') : Rel K B G' (putBack os cs δ) σ H' := by
  have hlen : os.length = cs.length := by rw [← opds_len ok, ← R'.len, List.length_map]
  have sb : Same B H' := fun a o e => by
    by_cases h : ∃ i c, δ[i]? = some c ∧ a ∈ c.fp ∧ i ∉ slotsOf os
    · obtain ⟨i, c, h1, h2, _⟩ := h
      rw [(R.fr i c a h1 h2).2] at e; cases e
    · exact R'.sb a o (by rw [hold_out h]; exact e)
  have keep : ∀ {i : Nat} {c : Cell} {a : Addr}, i ∉ slotsOf os → δ[i]? = some c → a ∈ c.fp → H' a = H a ∧ hold B H δ (slotsOf os) a = H a := fun {i c a} h1 h2 h3 => by
    have e := hold_in (B := B) (H := H) ⟨i, c, h2, h3, h1⟩
    obtain ⟨o, eo⟩ := R.tr h2 h3
    exact ⟨by rw [R'.sb a o (by rw [e]; exact eo), eo], e⟩
  refine ⟨by rw [putBack_len]; exact R.len, R'.sg, sb, fun a => ?_, fun i c o e1 e2 => ?_, fun i k c c' a e1 e2 m1 m2 => ?_, fun i c a e m => ?_, ⟨R'.tt.t, ⟨R.tt.n.b, R'.tt.n.g⟩⟩⟩
  · by_cases h : ∃ i c, δ[i]? = some c ∧ a ∈ c.fp ∧ i ∉ slotsOf os
    · obtain ⟨i, c, h1, h2, _⟩ := h
      exact .inr (R.fr i c a h1 h2).2
    · have := R'.dj a
      rw [hold_out h] at this; exact this
  · rcases putBack_at hlen nd e1 with ⟨h1, h2⟩ | ⟨j, h1, h2⟩
    · exact (R.ok i c o h2 e2).stay s fun a m => (keep h1 h2 m).1
    · obtain ⟨v, h3, h4⟩ := opds_at ok h1
      have h5 : σ[i]? = some (some v) := h4
      rw [h5] at e2; cases e2
      exact R'.ok j c (some v) h2 (by rw [List.getElem?_map, h3]; rfl)
  · rcases putBack_at hlen nd e1 with ⟨h1, h2⟩ | ⟨j, h1, h2⟩
    · rcases putBack_at hlen nd e2 with ⟨h3, h4⟩ | ⟨j', h3, h4⟩
      · exact R.ap i k c c' a h2 h4 m1 m2
      · obtain ⟨_, f2⟩ := R'.fr j' c' a h4 m2
        rw [(keep h1 h2 m1).2] at f2
        obtain ⟨o, eo⟩ := R.tr h2 m1
        rw [eo] at f2; cases f2
    · rcases putBack_at hlen nd e2 with ⟨h3, h4⟩ | ⟨j', h3, h4⟩
      · obtain ⟨_, f2⟩ := R'.fr j c a h2 m1
        rw [(keep h3 h4 m2).2] at f2
        obtain ⟨o, eo⟩ := R.tr h4 m2
        rw [eo] at f2; cases f2
      · have := R'.ap j j' c c' a h2 h4 m1 m2
        subst this
        rw [h1] at h3; cases h3; rfl
  · rcases putBack_at hlen nd e with ⟨h1, h2⟩ | ⟨j, h1, h2⟩
    · obtain ⟨f1, f2⟩ := R.fr i c a h2 m
      refine ⟨?_, f2⟩
      rcases R'.dj a with z | z
      · exact z
      · rw [(keep h1 h2 m).2] at z
        obtain ⟨o, eo⟩ := R.tr h2 m
        rw [eo] at z; cases z
    · obtain ⟨f1, f2⟩ := R'.fr j c a h2 m
      refine ⟨f1, ?_⟩
      by_cases h : ∃ i c, δ[i]? = some c ∧ a ∈ c.fp ∧ i ∉ slotsOf os
      · obtain ⟨i', c', h3, h4, _⟩ := h
        exact (R.fr i' c' a h3 h4).2
      · rw [hold_out h] at f2; exact f2
end
section
variable {X : Cx} {CX : CXT} {k : Nat} {f : Addr} {fd : FuncData} {ps : List Str} {x : Str} {p pos : Pos} {e : Expr} {es : List Expr}
theorem run_fnG {sp : Sp} {E : XK} {pins : List (Addr × Obj)} {σ : L2.St} {H : Hp} {s : Shared} {Q : VK} {us : List Value} {vs : List V} (F : FnG X.prog X.w X.K X.mg X.base CX k f fd ps sp) (hr : RoomG k X.A) (hb : Binds X.K fd ps []) (hx : Passes CX X E)
    (I : Inv X pins σ H s) (r : Vals vs us) (h : sp vs H Q E) : wpAny (model X.prog X.w) X.A (call (.ref f) us) (EP X pins σ Q) X.xe s := by
  have many : (us ++ []).length = ps.length := (List.append_nil us).symm ▸ r.length.symm.trans (F.len _ _ _ _ h)
  have bound : BindsTo s fd ⟨us, []⟩ (ps.zip us) := by have := hb s us I.kIn many; rwa [List.append_nil] at this
  refine wpAny_call (codeAny_mono (F.run X.A X.stack s H ⟨us, []⟩ us vs Q E hr I.env0 bound r h) ?_)
  rintro (err | _ | _ | _ | u) z back <;> first | exact hx pins σ H s err z I back | exact False.elim back | exact I.after back
theorem pe_callG {sp : Sp} {E : XK} {t : TA} (F : FnG X.prog X.w X.K X.mg X.base CX k f fd ps sp) (hr : RoomG k X.A) (hg : Gl X x) (hm : X.mg x = some (.ref f)) (hk : PySem.W.keepIn X.K (.ref f) = true) (hb : Binds X.K fd ps []) (hx : Passes CX X E)
    (ha : PA X (e :: es) t) (hdb : (x == ("__debug__" : Str)) = false := by decide) (he : starEach (e :: es) X.env = (false, eval e X.env) :: starEach es X.env := by rfl) (hpl : (backTo pos (starEach es X.env)).any (·.1) = false := by rfl) : PE X (.Call (.Name x p) (e :: es) [] pos) (tCall sp [] E t) := by
  exact ⟨fun pins s σ H Q I h => wpAny_Call_Name_kw (ld_glob I hg hm (PySem.W.callWith_K (h₀ := X.base) I.ok.mod.kin hk (wpAny_mono (ha.run pos pins s σ H _ I h)
    (fun us z ⟨vs, H1, I1, r, q⟩ => ⟨I1.kIn, run_fnG F hr hb hx I1 r (by have q : sp (vs ++ []) H1 Q E := q; rwa [List.append_nil] at q)⟩) fun _ _ z => z) he hpl) hdb)⟩
theorem je_call {m : List Bool} {sp : DSp} {w : DA} (F : FnG X.prog X.w X.K X.mg X.base CX0 k f fd ps (liftSp X.K sp)) (hr : RoomG k X.A) (hg : Gl X x) (hm : X.mg x = some (.ref f)) (hk : PySem.W.keepIn X.K (.ref f) = true) (hb : Binds X.K fd ps [])
    (ha : JA X (e :: es) w) (hdb : (x == ("__debug__" : Str)) = false := by decide) (he : starEach (e :: es) X.env = (false, eval e X.env) :: starEach es X.env := by rfl) (hpl : (backTo pos (starEach es X.env)).any (·.1) = false := by rfl) : JE X (.Call (.Name x p) (e :: es) [] pos) (wCall m sp w) :=
  pe_le (pe_callG (E := E0) F hr hg hm hk hb pass0 ha hdb he hpl) fun pins s σ H Q I ⟨B, G, δ, R, rel, hw, k⟩ => ⟨B, G, δ, _, rel, hw, fun vs H1 G1 os δ1 r1 s1 rel1 ok1 => by
    obtain ⟨G2, δ2, os', ⟨nd, q⟩, s2, rel2, ok2⟩ := lkM_ok rel1 ok1 r1
    rw [List.append_nil]
    exact ⟨_, G2, _, _, call_rel rel2 ok2 nd, q, fun v H' G' z cs r s3 rel3 dn => k v H' G' _ _ r (s1.trans (s2.trans s3)) (call_back rel2 ok2 nd s3 rel3) dn⟩⟩
end
end DL
set_option Elab.async false
set_option linter.all false
set_option maxRecDepth 100000
set_option maxHeartbeats 4000000
namespace DL
open PySem PySem.Spec PyProof.Rows L2
variable [Tb]

inductive Src where
  | l (a : Addr)
  | t (a : Addr)
def Src.ad : Src → Addr
  | .l a => a
  | .t a => a
def Src.is (h : Heap) (its : Array Value) : Src → Prop
  | .l a => h.IsList a its
  | .t a => h.IsTuple a its
def Src.iter (h : Heap) (it : Addr) (n : Nat) : Src → Prop
  | .l a => h.IsListIter it a n
  | .t a => h.IsTupleIter it a n
def Src.ob : Src → Obj
  | .l a => { cls := .type "list_iterator", data := .fields #[.ref a, .int 0 0] }
  | .t a => { cls := .type "tuple_iterator", data := .fields #[.ref a, .int 0 0] }
def SrcOk (K : PySem.W.Frag) (H : Hp) (S : Src) (xs : List V) : Prop := match S with
  | .l a => SqL K H a xs
  | .t a => SqT K H a xs
theorem Src.draws {prog : Program} {w : World} {A : Around} (hh : A.handled = none) (S : Src) (it : Addr) (hne : S.ad ≠ it) (items : Array Value) :
    Draws prog w A it [it, S.ad] items.size (fun i v => items[i]? = some v) (fun i h => S.iter h it i ∧ S.is h items) := by
  cases S with
  | l a => exact Draws.list hh it a hne items
  | t a => exact Draws.tuple hh it a hne items
theorem Src.begins (S : Src) (items : Array Value) : Begins (.ref S.ad) S.ob fun h => S.is h items := by
  cases S with
  | l a => exact begins_list a items
  | t a => exact begins_tuple a items
theorem Src.lt {S : Src} {h : Heap} {its : Array Value} (x : S.is h its) : S.ad < h.objs.size := by
  cases S with
  | l a => obtain ⟨o, e, _⟩ := x; exact Heap.lt_size e
  | t a => obtain ⟨o, e, _⟩ := x; exact Heap.lt_size e
theorem Src.iter_keep {S : Src} {h h' : Heap} {it : Addr} {n : Nat} (x : S.iter h it n) (k : ∀ o, h.get? it = some o → h'.get? it = some o) : S.iter h' it n := by
  cases S with
  | l a => exact Heap.IsListIter.at x k
  | t a => exact Heap.IsTupleIter.at x k
theorem Src.iter_of {S : Src} {h : Heap} {it : Addr} (e : h.get? it = some S.ob) : S.iter h it 0 := by
  cases S with
  | l a => exact ⟨_, e, rfl, rfl⟩
  | t a => exact ⟨_, e, rfl, rfl⟩
theorem Src.iter_obj {S : Src} {h : Heap} {it : Addr} {n : Nat} (x : S.iter h it n) : ∃ o, h.get? it = some o ∧ ∀ v, o.data ≠ .cell v := by
  cases S with
  | l a => obtain ⟨o, e, c, d⟩ := x; exact ⟨o, e, fun v z => by rw [d] at z; cases z⟩
  | t a => obtain ⟨o, e, c, d⟩ := x; exact ⟨o, e, fun v z => by rw [d] at z; cases z⟩
theorem src_get {X : Cx} {pins : List (Addr × Obj)} {σ : L2.St} {H : Hp} {s : Shared} {S : Src} {xs : List V} (I : Inv X pins σ H s) (h : SrcOk X.K H S xs) : ∃ its : List Value, Vals xs its ∧ S.is s.heap its.toArray ∧ xs.length ≤ sizeLine := by
  cases S with
  | l a => obtain ⟨its, rv, p, hz⟩ := I.list h; exact ⟨its, rv, p.isList, hz⟩
  | t a => obtain ⟨its, rv, p, hz⟩ := I.tuple h; exact ⟨its, rv, p, hz⟩
theorem src_inj {X : Cx} {pins : List (Addr × Obj)} {σ : L2.St} {H : Hp} {s : Shared} {S : Src} {xs ys : List V} (I : Inv X pins σ H s) (h : SrcOk X.K H S xs) (h' : SrcOk X.K H S ys) : xs = ys := by
  cases S with
  | l a => exact I.list_inj h h'
  | t a => exact I.tuple_inj h h'
/-- a footprint's objects are there, and none is a cell -/
def Sits (ch : List Addr) (h : Heap) : Prop := ∀ b ∈ ch, ∃ o, h.get? b = some o ∧ ∀ v, o.data ≠ .cell v
theorem Sits.nil {h : Heap} : Sits [] h := fun _ m => nomatch m
theorem Sits.put {b : Addr} {ch : List Addr} {h : Heap} {o : Obj} (e : h.get? b = some o) (n : ∀ v, o.data ≠ .cell v) (t : Sits ch h) : Sits (b :: ch) h :=
  List.forall_mem_cons.mpr ⟨⟨o, e, n⟩, t⟩
theorem Sits.src {S : Src} {b : Addr} {ch : List Addr} {h : Heap} {n : Nat} (e : S.iter h b n) (t : Sits ch h) : Sits (b :: ch) h :=
  List.forall_mem_cons.mpr ⟨Src.iter_obj e, t⟩
/-- a new tuple lies on top, and of what was there only the footprint has turned -/
theorem row_laid {X : Cx} {pins : List (Addr × Obj)} {σ : L2.St} {H : Hp} {s : Shared} {ch : List Addr} {h' : Heap} {tk : Nat} {row : List V} {us : List Value}
    (I : Inv X pins σ H s) (own : ∀ b ∈ ch, FpOk X pins H b) (sit : Sits ch s.heap) (same : ∀ b o, b ∉ ch → s.heap.get? b = some o → h'.get? b = some o)
    (short : row.length ≤ sizeLine) (r : Vals row us) (top : h'.get? s.heap.objs.size = some { cls := .type "tuple", data := .seq us.toArray }) :
    Inv X pins σ (upd H s.heap.objs.size (.tup row)) { s with heap := h', toks := tk } ∧ H s.heap.objs.size = none ∧ ∀ b ∈ ch, upd H s.heap.objs.size (.tup row) b = none := by
  refine ⟨I.turnedNew same own (Nat.le_refl _) ⟨short, us, r, _, top, rfl, _, rfl⟩, I.hok.fresh (Nat.le_refl _), fun b m => ?_⟩
  obtain ⟨o, at_b, _⟩ := sit b m
  exact (upd_ne (Nat.ne_of_lt (Heap.lt_size at_b))).trans (own b m).1
/-- what lies above the heap's end is nobody's -/
theorem all_new {X : Cx} {pins : List (Addr × Obj)} {σ : L2.St} {H : Hp} {s : Shared} (I : Inv X pins σ H s) (ks : List Nat) : ∀ b ∈ ks.map (s.heap.objs.size + ·), FpOk X pins H b := fun b m => by
  obtain ⟨k, _, rfl⟩ := List.mem_map.mp m
  exact I.fpOk (Nat.le_add_right _ k) (I.hok.fresh (Nat.le_add_right _ k))
/-- a row's item of a source: its value, and where it stands -/
theorem src_item {X : Cx} {pins : List (Addr × Obj)} {σ : L2.St} {H : Hp} {s : Shared} {S : Src} {xs : List V} {i : Nat} {x : V} (I : Inv X pins σ H s) (h : SrcOk X.K H S xs) (e : xs[i]? = some x) :
    ∃ (its : Array Value) (u : Value), S.is s.heap its ∧ i < its.size ∧ (∀ y, its[i]? = some y → y = u) ∧ RelV x u ∧ ∀ ys, SrcOk X.K H S ys → ys[i]? = some x := by
  obtain ⟨its, rv, at_s, _⟩ := src_get I h
  obtain ⟨u, eu, ru⟩ := rv.get e
  refine ⟨its.toArray, u, at_s, ?_, fun y ey => ?_, ru, fun ys h2 => src_inj I h2 h ▸ e⟩
  · rw [List.size_toArray]; exact (List.getElem?_eq_some_iff.mp eu).1
  · rw [List.getElem?_toArray, eu] at ey; exact (Option.some.inj ey).symm
theorem src_all {X : Cx} {pins : List (Addr × Obj)} {σ : L2.St} {H : Hp} {s : Shared} {S : Src} {xs : List V} (I : Inv X pins σ H s) (h : SrcOk X.K H S xs) :
    ∃ its : Array Value, S.is s.heap its ∧ its.size = xs.length := by
  obtain ⟨its, rv, at_s, _⟩ := src_get I h
  exact ⟨its.toArray, at_s, by rw [List.size_toArray]; exact rv.length.symm⟩
/-- a built-in class is called by its name, on what the operands yield -/
theorem pi_class {X : Cx} {tg e : Expr} {es : List Expr} {ta : TA} {p pos : Pos} {x : Str} {T : String} {W : List V → Hp → (It → Hp → Prop) → Prop} (hg : Gl X x) (hm : X.mg x = none) (hb : bootBuiltins x = some (.type T)) (ha : PA X (e :: es) ta)
    (hs : starEach (e :: es) X.env = (false, eval e X.env) :: starEach es X.env) (hpl : (backTo pos (starEach es X.env)).any (·.1) = false) (hx : x ≠ "__name__") (hd : (x == ("__debug__" : Str)) = false)
    (k : ∀ (pins : List (Addr × Obj)) (s : Shared) (σ : L2.St) (H : Hp) (R : It → Hp → Prop) (vs : List V) (us : List Value), Inv X pins σ H s → Vals vs us → W vs H R →
      wpAny (model X.prog X.w) X.A (call (.type T) us) (fun v s1 => wpAny (model X.prog X.w) X.A (pyIter v) (PIE X pins σ tg R) X.xe s1) X.xe s) :
    PI X tg (.Call (.Name x p) (e :: es) [] pos) (fun σ H R => ta σ H fun vs H1 => W vs H1 R) where
  run pins s σ H R I h := Call_ (ld_blt I hg hm hb (PyProof.Rows.callWith_type1 (wpAny_mono (ha.run pos pins s σ H _ I h)
    (fun us _ ⟨vs, H1, I1, r, q⟩ => k pins _ σ H1 R vs us I1 r q) fun _ _ z => z) hs hpl) hx hd)

def Izp (K : PySem.W.Frag) (S T : Src) : It :=
  ⟨fun i H => ∃ xs ys x y, SrcOk K H S xs ∧ SrcOk K H T ys ∧ xs[i]? = some x ∧ ys[i]? = some y,
   fun i H v H' => ∃ (p : Addr) (x y : V), v = .ref p ∧ H p = none ∧ H' = upd H p (.tup [x, y]) ∧ (∀ xs, SrcOk K H S xs → xs[i]? = some x) ∧ ∀ ys, SrcOk K H T ys → ys[i]? = some y,
   fun i H => ∃ xs ys, SrcOk K H S xs ∧ SrcOk K H T ys ∧ i ≤ xs.length ∧ i ≤ ys.length ∧ (i = xs.length ∨ i = ys.length)⟩
theorem turn_zp {P : Program} {w : World} {K : PySem.W.Frag} {elts : List Expr} {kk : Nat} {tpos : Pos} {S T : Src} {z TI TO i1 i2 : Addr} (n1 : S.ad ≠ i1) (n2 : T.ad ≠ i2) (D : ZipSep2 z TI TO i1 i2 [i1, S.ad] [i2, T.ad]) :
    Turn P w K (.Tuple elts kk tpos) (Izp K S T) [z, TI, TO, i1, i2] z (fun i h => IsZip h z TI TO .none ∧ IsTupOf2 h TI (.ref i1) (.ref i2) ∧ (∃ a b, IsTupOf2 h TO a b) ∧ S.iter h i1 i ∧ T.iter h i2 i) := by
  have sit : ∀ {i : Nat} {h : Heap} {a b : Value}, IsZip h z TI TO .none → IsTupOf2 h TI (.ref i1) (.ref i2) → IsTupOf2 h TO a b → S.iter h i1 i → T.iter h i2 i → Sits [z, TI, TO, i1, i2] h :=
    fun hz hI hO h1 h2 => .put hz nofun (.put hI nofun (.put hO nofun (.src h1 (.src h2 .nil))))
  have out : ∀ {h h2 : Heap}, (∀ c o, c ≠ z → c ≠ TO → c ≠ i1 → c ≠ i2 → h.get? c = some o → h2.get? c = some o) → ∀ c o, c ∉ [z, TI, TO, i1, i2] → h.get? c = some o → h2.get? c = some o := fun k c o m => by
    simp only [List.mem_cons, List.not_mem_nil, or_false, not_or] at m
    exact k c o m.1 m.2.2.1 m.2.2.2.1 m.2.2.2.2
  refine ⟨List.mem_cons_self, fun i h ⟨hz, hI, ⟨_, _, hO⟩, h1, h2⟩ => sit hz hI hO h1 h2, ?_, ?_, ?_, fun _ _ _ _ _ st => wpAny_pyIter_zip st.1⟩
  · rintro i h h' ⟨hz, hI, ⟨a, b, hO⟩, h1, h2⟩ k
    exact ⟨k z (by simp) _ hz, k TI (by simp) _ hI, ⟨a, b, k TO (by simp) _ hO⟩, Src.iter_keep h1 (k i1 (by simp)), Src.iter_keep h2 (k i2 (by simp))⟩
  · rintro X rfl rfl rfl hc i pins s σ H E I own ⟨hz, hI, ⟨a, b, hO⟩, h1, h2⟩ ⟨xs, ys, x, y, ox, oy, ex, ey⟩
    obtain ⟨as, u1, at1, l1, val1, r1, same1⟩ := src_item I ox ex
    obtain ⟨bs, u2, at2, l2, val2, r2, same2⟩ := src_item I oy ey
    refine wpAny_pyNext_zipD2_item D (Src.draws (A := X.A.in1) (I.ok.hd hc) S i1 n1 as) (Src.draws (A := X.A.in1) (I.ok.hd hc) T i2 n2 bs) hz hI hO ⟨h1, at1⟩ ⟨h2, at2⟩ l1 l2 fun x1 x2 g tk e1 e2 gz gO g1 g2 top _ kept => ⟨_, rfl, ?_⟩
    cases val1 _ e1; cases val2 _ e2
    refine wpAny_letOwnedTupleGo_zip (s := { s with heap := g, toks := tk }) gz fun g' gz' but => ?_
    have old : z ≠ s.heap.objs.size := Nat.ne_of_lt (Heap.lt_size hz)
    obtain ⟨I', new, none'⟩ := row_laid (h' := g') (tk := tk) I own (sit hz hI hO h1 h2) (fun c o m q => (but.2 c fun e => m (e ▸ List.mem_cons_self)).trans (out kept c o m q))
      (row := [x, y]) (show 2 ≤ sizeLine by decide) (.cons r1 (.cons r2 .nil)) ((but.2 _ old.symm).trans top)
    exact ⟨.ref s.heap.objs.size, _, I', rfl, ⟨_, x, y, rfl, new, rfl, same1, same2⟩,
      ⟨gz', (but.2 _ D.TIz).trans (kept _ _ D.TIz D.TITO D.TIi1 D.TIi2 hI), ⟨_, _, (but.2 _ D.TOz).trans gO⟩,
        Src.iter_keep g1.1 fun o q => (but.2 _ fun e => D.zf1 (by simp [e])).trans q, Src.iter_keep g2.1 fun o q => (but.2 _ fun e => D.zf2 (by simp [e])).trans q⟩, none'⟩
  · rintro X rfl rfl rfl hc i pins s σ H E I own ⟨hz, hI, ⟨a, b, hO⟩, h1, h2⟩ ⟨xs, ys, ox, oy, lx, ly, fin⟩
    obtain ⟨as, at1, s1⟩ := src_all I ox
    obtain ⟨bs, at2, s2⟩ := src_all I oy
    refine wpAny_pyNext_zipD2_end D (Src.draws (A := X.A.in1) (I.ok.hd hc) S i1 n1 as) (Src.draws (A := X.A.in1) (I.ok.hd hc) T i2 n2 bs) hz hI hO ⟨h1, at1⟩ ⟨h2, at2⟩ (s1 ▸ lx) (s2 ▸ ly) (by rw [s1, s2]; exact fin) fun g tk kept => ?_
    exact ⟨rfl, I.turnedL (out kept) own⟩
def iZp (K : PySem.W.Frag) (ta : TA) : TI := fun σ H R => ta σ H fun vs H1 => ∃ S T xs ys, vs = [.ref S.ad, .ref T.ad] ∧ SrcOk K H1 S xs ∧ SrcOk K H1 T ys ∧ (xs.length ≤ sizeLine → ys.length ≤ sizeLine → R (Izp K S T) H1)
theorem pi_zp {X : Cx} {e e2 : Expr} {ta : TA} {p pos tpos : Pos} {elts : List Expr} {kk : Nat} (hg : Gl X "zip") (hm : X.mg "zip" = none) (ha : PA X [e, e2] ta)
    (hs : starEach [e, e2] X.env = (false, eval e X.env) :: starEach [e2] X.env := by rfl) (hpl : (backTo pos (starEach [e2] X.env)).any (·.1) = false := by rfl) :
    PI X (.Tuple elts kk tpos) (.Call (.Name "zip" p) [e, e2] [] pos) (iZp X.K ta) :=
  pi_class hg hm PyProof.Rows.boot_zip ha hs hpl (by decide) (by decide) fun pins s σ H R vs us I r ⟨S, T, xs, ys, ev, ox, oy, q⟩ => by
    subst ev
    obtain _ | ⟨rfl, _ | ⟨rfl, _ | _⟩⟩ := r
    obtain ⟨as, at1, s1⟩ := src_all I ox
    obtain ⟨bs, at2, s2⟩ := src_all I oy
    have b1 := Src.lt at1
    have b2 := Src.lt at2
    obtain ⟨_, _, _, z1⟩ := src_get I ox
    obtain ⟨_, _, _, z2⟩ := src_get I oy
    refine zip_begins2 (Src.begins S as) (Src.begins T bs) at1 at2 fun h' hz hI hO h1 h2 _ kept => wpAny_pyIter_zip hz ?_
    exact ⟨_, _, _, _, H, rfl, I.kept (t' := s.toks) kept, turn_zp (Nat.ne_of_lt b1) (Nat.ne_of_lt (Nat.lt_succ_of_lt b2)) (zip_sep2 (by simpa using b1) (by simpa using b2)),
      ⟨hz, hI, ⟨_, _, hO⟩, Src.iter_of h1, Src.iter_of h2⟩, all_new I [4, 2, 3, 0, 1], q z1 z2⟩

def Ien (K : PySem.W.Frag) (S : Src) : It :=
  ⟨fun i H => ∃ xs x, SrcOk K H S xs ∧ xs[i]? = some x,
   fun i H v H' => ∃ (p : Addr) (x : V), v = .ref p ∧ H p = none ∧ H' = upd H p (.tup [.int (i : Nat), x]) ∧ ∀ xs, SrcOk K H S xs → xs[i]? = some x,
   fun i H => ∃ xs, SrcOk K H S xs ∧ i = xs.length⟩
theorem turn_en {P : Program} {w : World} {K : PySem.W.Frag} {elts : List Expr} {kk : Nat} {tpos : Pos} {S : Src} {e it : Addr} (n1 : S.ad ≠ it) (n2 : e ≠ it) (n3 : e ≠ S.ad) :
    Turn P w K (.Tuple elts kk tpos) (Ien K S) [e, it] e (fun i h => (∃ old, IsEnum h e it ((i : Nat) : Int) old) ∧ S.iter h it i) := by
  have sit : ∀ {i : Nat} {h : Heap} {c : Int} {old : Value}, IsEnum h e it c old → S.iter h it i → Sits [e, it] h := fun he h1 => .put he nofun (.src h1 .nil)
  refine ⟨List.mem_cons_self, fun i h ⟨⟨_, he⟩, h1⟩ => sit he h1, ?_, ?_, ?_, fun _ _ _ _ _ ⟨⟨_, he⟩, _⟩ => wpAny_pyIter_enum he⟩
  · rintro i h h' ⟨⟨old, he⟩, h1⟩ k
    exact ⟨⟨old, k e (by simp) _ he⟩, Src.iter_keep h1 (k it (by simp))⟩
  · rintro X rfl rfl rfl hc i pins s σ H E I own ⟨⟨old, he⟩, h1⟩ ⟨xs, x, ox, ex⟩
    obtain ⟨as, u1, at1, l1, val1, r1, same1⟩ := src_item I ox ex
    refine wpAny_pyNext_enum_itemD (Src.draws (A := X.A.in1) (I.ok.hd hc) S it n1 as) he ⟨h1, at1⟩ l1 n2 (by simp [n2, n3]) fun y g tk ey go g1 top _ kept => ⟨_, rfl, ?_⟩
    cases val1 _ ey
    refine wpAny_letOwnedTupleGo_enum (s := { s with heap := g, toks := tk + 1 }) go fun g' ge' but => ?_
    have old' : e ≠ s.heap.objs.size := Nat.ne_of_lt (Heap.lt_size he)
    obtain ⟨I', new, none'⟩ := row_laid (h' := g') (tk := tk + 1) (row := [.int (i : Nat), x]) I own (sit he h1)
      (fun c o m q => by
        simp only [List.mem_cons, List.not_mem_nil, or_false, not_or] at m
        exact (but.2 c m.1).trans (kept c o m.1 m.2 q))
      (show 2 ≤ sizeLine by decide) (.cons ⟨tk, rfl⟩ (.cons r1 .nil)) ((but.2 _ old'.symm).trans top)
    exact ⟨.ref s.heap.objs.size, _, I', rfl, ⟨_, x, rfl, new, rfl, same1⟩, ⟨⟨_, by rw [Int.natCast_succ]; exact ge'⟩, Src.iter_keep g1.1 fun o q => (but.2 it n2.symm).trans q⟩, none'⟩
  · rintro X rfl rfl rfl hc i pins s σ H E I own ⟨⟨old, he⟩, h1⟩ ⟨xs, ox, rfl⟩
    obtain ⟨as, at1, s1⟩ := src_all I ox
    rw [← s1] at h1
    refine wpAny_pyNext_enum_endD (Src.draws (A := X.A.in1) (I.ok.hd hc) S it n1 as) he ⟨h1, at1⟩ fun g kept => ⟨rfl, ?_⟩
    exact I.turnedL (t' := s.toks) (fun c o m => kept c o fun z => m (z ▸ List.mem_cons_of_mem _ List.mem_cons_self)) own
/-- enumerate of one thing: the class's own make, from any thing that can be walked along -/
theorem enum_made {v : Value} {o : Obj} {Q : Heap → Prop} (B : Begins v o Q) :
    Meets (Builtin.«enumerate.__new__» ⟨[.type "enumerate", v], []⟩) (fun _ R s => Q s.heap ∧
      R (.ok (.ret (.ref (s.heap.push o).objs.size))) { s with heap := (s.heap.push o).push { cls := .type "enumerate", data := .fields #[.none, .bool false, .ref s.heap.objs.size, rawInt 0, .none, .none] } }) := by
  refine .of_wp fun prog w A R => ?_
  rintro ⟨hp, gs, dr, tk, os⟩ ⟨at_v, h⟩
  have begun {A' : Around} {E G : Value → Shared → Prop} : G (.ref hp.objs.size) ⟨hp.push o, gs, dr, tk, os⟩ → wpAny (model prog w) A' (pyIter v) G E ⟨hp, gs, dr, tk, os⟩ := B.iter prog w _ _ ⟨hp, gs, dr, tk, os⟩ _ at_v
  have sub := sub_enumerate
  wp_walk using begun
  refine wpAny_stack_any fun _ => wpAny_pure ?_
  split
  next c _ _ _ _ _ => cases (c == Value.type "enumerate") <;> (wp_walk using begun; exact ⟨_, rfl, h⟩)
  next => wp_walk using begun; exact ⟨_, rfl, h⟩
theorem enum_starts {prog : Program} {w : World} {A : Around} {E : Value → Shared → Prop} {s : Shared} {v : Value} {o : Obj} {P : Heap → Prop} {Q : Value → Shared → Prop} (B : Begins v o P) (at_v : P s.heap)
    (k : ∀ h', IsEnum h' (s.heap.objs.size + 1) s.heap.objs.size 0 .none → h'.get? s.heap.objs.size = some o → (∀ b u, s.heap.get? b = some u → h'.get? b = some u) → Q (.ref (s.heap.objs.size + 1)) { s with heap := h' }) :
    wpAny (model prog w) A (call (.type "enumerate") [v]) Q E s := by
  refine callType_new F.called_enumerate (by decide) (F.typeCall_enumerate_1 _) (F.newCall_enumerate_1 _) (F.args_object_init_2 · _) F.entry_enumerate_new (enum_made B) ⟨at_v, ?_⟩
  have up : (s.heap.push o).objs.size = s.heap.objs.size + 1 := Heap.size_push _ _
  have at_e := Heap.get?_push_size (s.heap.push o) (o := { cls := .type "enumerate", data := .fields #[.none, .bool false, .ref s.heap.objs.size, rawInt 0, .none, .none] }) rfl
  rw [up] at at_e
  show _ ∧ _
  rw [up]
  exact ⟨⟨_, at_e, rfl⟩, k _ at_e (Heap.get?_push_of_some _ (Heap.get?_push_size _ B.free)) fun b u q => Heap.get?_push_of_some _ (Heap.get?_push_of_some _ q)⟩
def iEn (K : PySem.W.Frag) (ta : TA) : TI := fun σ H R => ta σ H fun vs H1 => ∃ S xs, vs = [.ref S.ad] ∧ SrcOk K H1 S xs ∧ (xs.length ≤ sizeLine → R (Ien K S) H1)
theorem pi_en {X : Cx} {e : Expr} {ta : TA} {p pos tpos : Pos} {elts : List Expr} {kk : Nat} (hg : Gl X "enumerate") (hm : X.mg "enumerate" = none) (ha : PA X [e] ta) (hs : starEach [e] X.env = [(false, eval e X.env)] := by rfl) :
    PI X (.Tuple elts kk tpos) (.Call (.Name "enumerate" p) [e] [] pos) (iEn X.K ta) :=
  pi_class hg hm boot_enumerate ha hs rfl (by decide) (by decide) fun pins s σ H R vs us I r ⟨S, xs, ev, ox, q⟩ => by
    subst ev
    obtain _ | ⟨rfl, _ | _⟩ := r
    obtain ⟨as, at1, _⟩ := src_all I ox
    obtain ⟨_, _, _, z1⟩ := src_get I ox
    have b1 := Src.lt at1
    exact enum_starts (Src.begins S as) at1 fun h' he h1 kept => wpAny_pyIter_enum he ⟨_, _, _, _, H, rfl, I.kept (t' := s.toks) kept,
      turn_en (Nat.ne_of_lt b1) (Nat.succ_ne_self _) (Nat.ne_of_gt (Nat.lt_succ_of_lt b1)), ⟨⟨_, he⟩, Src.iter_of h1⟩, all_new I [1, 0], q z1⟩

def seqOf : PyData → Option (List PyData)
  | .list xs => some xs
  | .tuple xs => some xs
  | _ => none
def triosD : List PyData → List PyData → List PyData → List PyData
  | x :: xs, y :: ys, z :: zs => .tuple [x, y, z] :: triosD xs ys zs
  | _, _, _ => []
def numbered : Nat → List PyData → List PyData
  | _, [] => []
  | n, x :: xs => .tuple [.int (n : Int), x] :: numbered (n + 1) xs
theorem pairsD_len : ∀ xs ys, (pairsD xs ys).length = min xs.length ys.length
  | [], _ => by simp [pairsD]
  | _ :: _, [] => by simp [pairsD]
  | x :: xs, y :: ys => by simp [pairsD, pairsD_len xs ys, Nat.succ_min_succ]
theorem numbered_len : ∀ n xs, (numbered n xs).length = xs.length
  | _, [] => rfl
  | n, x :: xs => by simp [numbered, numbered_len (n + 1) xs]
theorem pairsD_get : ∀ (xs ys : List PyData) (i : Nat), (pairsD xs ys)[i]? = match xs[i]?, ys[i]? with
    | some x, some y => some (.tuple [x, y])
    | _, _ => none
  | [], _, i => by simp [pairsD]
  | _ :: _, [], i => by simp only [pairsD, List.getElem?_nil]; split <;> simp_all
  | x :: xs, y :: ys, 0 => by simp [pairsD]
  | x :: xs, y :: ys, i + 1 => by simpa [pairsD] using pairsD_get xs ys i
theorem numbered_get : ∀ (n : Nat) (xs : List PyData) (i : Nat), (numbered n xs)[i]? = (xs[i]?).map fun x => .tuple [.int ((n + i : Nat) : Int), x]
  | _, [], i => by simp [numbered]
  | n, x :: xs, 0 => by simp [numbered]
  | n, x :: xs, i + 1 => by
    simp only [numbered, List.getElem?_cons_succ, numbered_get (n + 1) xs i]
    rw [show n + 1 + i = n + (i + 1) by omega]
theorem dn_src {K : PySem.W.Frag} {G : Hp} {v : V} {d : PyData} {xs : List PyData} (dn : Dn K G v d) (h : seqOf d = some xs) : ∃ S vs, v = .ref (Src.ad S) ∧ DnL K G vs xs ∧ ∀ G2 H, Same G G2 → Same G2 H → SrcOk K H S vs := by
  cases dn with
  | lst hs t => cases h; exact ⟨.l _, _, rfl, t, fun G2 H s1 s2 => SqL.of (s2 _ _ (s1 _ _ hs))⟩
  | tup hs t => cases h; exact ⟨.t _, _, rfl, t, fun G2 H s1 s2 => sqT_mono s2 (sqT_mono s1 (SqT.of hs))⟩
  | _ => cases h
theorem pair_new {K : PySem.W.Frag} {B G H : Hp} {δ : DS} {σ : L2.St} {p : Addr} {xs : List V} {ds : List PyData} (rel : Rel K B G δ σ H) (np : H p = none) (t : DnL K G xs ds) : ∃ G3, Same G G3 ∧ Rel K B G3 δ σ (upd H p (.tup xs)) ∧ Dn K G3 (.ref p) (.tuple ds) := by
  obtain ⟨rel3, s3⟩ := rel.laid (o := .tup xs) np
  exact ⟨_, s3, rel3, Dn.tup upd_same (t.mono s3)⟩
theorem walk_zp {K : PySem.W.Frag} {G : Hp} {S T : Src} {vs us : List V} {xs ys : List PyData} (h1 : ∀ G2 H, Same G G2 → Same G2 H → SrcOk K H S vs) (h2 : ∀ G2 H, Same G G2 → Same G2 H → SrcOk K H T us) (t1 : DnL K G vs xs) (t2 : DnL K G us ys) : WalkD K (Izp K S T) G (pairsD xs ys) := fun B G2 δ σ H s rel => by
  have q1 := h1 G2 H s rel.sg
  have q2 := h2 G2 H s rel.sg
  have l1 := t1.len
  have l2 := t2.len
  rw [pairsD_len]
  refine ⟨fun i hi => ⟨vs, us, vs[i]'(by omega), us[i]'(by omega), q1, q2, List.getElem?_eq_getElem (by omega), List.getElem?_eq_getElem (by omega)⟩, ⟨vs, us, q1, q2, by omega, by omega, by omega⟩, fun i x d H' hd y => ?_⟩
  obtain ⟨p, x, y, rfl, np, rfl, y1, y2⟩ := y
  rw [pairsD_get] at hd
  cases e1 : xs[i]? with
  | none => rw [e1] at hd; simp at hd
  | some d1 =>
    cases e2 : ys[i]? with
    | none => rw [e1, e2] at hd; simp at hd
    | some d2 =>
      rw [e1, e2] at hd
      cases hd
      obtain ⟨v, hv, dv⟩ := t1.get e1
      obtain ⟨u, hu, du⟩ := t2.get e2
      rw [y1 vs q1] at hv; cases hv
      rw [y2 us q2] at hu; cases hu
      exact pair_new rel np (.cons (dv.mono s) (.cons (du.mono s) .nil))
theorem walk_en {K : PySem.W.Frag} {G : Hp} {S : Src} {vs : List V} {xs : List PyData} (h1 : ∀ G2 H, Same G G2 → Same G2 H → SrcOk K H S vs) (t1 : DnL K G vs xs) : WalkD K (Ien K S) G (numbered 0 xs) := fun B G2 δ σ H s rel => by
  have q1 := h1 G2 H s rel.sg
  have l1 := t1.len
  rw [numbered_len]
  refine ⟨fun i hi => ⟨vs, vs[i]'(by omega), q1, List.getElem?_eq_getElem (by omega)⟩, ⟨vs, q1, by omega⟩, fun i x d H' hd y => ?_⟩
  obtain ⟨p, x, rfl, np, rfl, y1⟩ := y
  rw [numbered_get] at hd
  cases e1 : xs[i]? with
  | none => rw [e1] at hd; cases hd
  | some d1 =>
    rw [e1] at hd
    cases hd
    obtain ⟨v, hv, dv⟩ := t1.get e1
    rw [y1 vs q1] at hv; cases hv
    refine pair_new rel np (.cons ?_ (.cons (dv.mono s) .nil))
    rw [Nat.zero_add]; exact Dn.int _
def iZip2 (w : DA) : DL := fun δ R => w δ fun os δ1 => lkL os δ1 fun ds δ2 => match ds with
  | [a, b] => ∃ xs ys, seqOf a = some xs ∧ seqOf b = some ys ∧ R (pairsD xs ys) δ2
  | _ => False
def iZip3 (w : DA) : DL := fun δ R => w δ fun os δ1 => lkL os δ1 fun ds δ2 => match ds with
  | [a, b, c] => ∃ xs ys zs, seqOf a = some xs ∧ seqOf b = some ys ∧ seqOf c = some zs ∧ R (triosD xs ys zs) δ2
  | _ => False
def iEnumD (w : DA) : DL := fun δ R => w δ fun os δ1 => lkL os δ1 fun ds δ2 => match ds with
  | [a] => ∃ xs, seqOf a = some xs ∧ R (numbered 0 xs) δ2
  | _ => False
theorem DnL.one {K : PySem.W.Frag} {G : Hp} {vs : List V} {d : PyData} (h : DnL K G vs [d]) : ∃ v, vs = [v] ∧ Dn K G v d := by
  cases h with | cons a b => cases b; exact ⟨_, rfl, a⟩
theorem DnL.two {K : PySem.W.Frag} {G : Hp} {vs : List V} {d e : PyData} (h : DnL K G vs [d, e]) : ∃ v u, vs = [v, u] ∧ Dn K G v d ∧ Dn K G u e := by
  cases h with | cons a b => obtain ⟨u, rfl, c⟩ := b.one; exact ⟨_, _, rfl, a, c⟩
section
variable {X : Cx} {pos tpos : Pos} {elts : List Expr} {kk : Nat} {p : Pos}
theorem ji_zip2 {e e2 : Expr} {w : DA} (hg : Gl X "zip") (hm : X.mg "zip" = none) (ha : JA X [e, e2] w)
    (hs : starEach [e, e2] X.env = (false, eval e X.env) :: starEach [e2] X.env := by rfl) (hpl : (backTo pos (starEach [e2] X.env)).any (·.1) = false := by rfl) : JI X (.Tuple elts kk tpos) (.Call (.Name "zip" p) [e, e2] [] pos) (iZip2 w) :=
  pi_le (pi_zp hg hm ha hs hpl) fun pins s σ H R I ⟨B, G, δ, R', rel, hw, k⟩ => ⟨B, G, δ, _, rel, hw, fun vs H1 G1 os δ1 r1 s1 rel1 ok1 => by
    obtain ⟨G2, δ2, ds, q, s2, rel2, t⟩ := lkL_ok rel1 ok1 r1
    match ds, q with
    | [a, b], ⟨xs, ys, ea, eb, q⟩ =>
      obtain ⟨v, u, rfl, da, db⟩ := t.two
      obtain ⟨S, ws, rfl, t1, k1⟩ := dn_src da ea
      obtain ⟨T, us, rfl, t2, k2⟩ := dn_src db eb
      refine ⟨S, T, ws, us, rfl, k1 _ _ (Same.refl _) rel2.sg, k2 _ _ (Same.refl _) rel2.sg, fun z1 z2 => k _ H1 G2 _ δ2 q (s1.trans s2) rel2 (walk_zp k1 k2 t1 t2) ?_⟩
      rw [pairsD_len, ← t1.len, ← t2.len]; omega⟩
theorem ji_enum {e : Expr} {w : DA} (hg : Gl X "enumerate") (hm : X.mg "enumerate" = none) (ha : JA X [e] w) (hs : starEach [e] X.env = [(false, eval e X.env)] := by rfl) : JI X (.Tuple elts kk tpos) (.Call (.Name "enumerate" p) [e] [] pos) (iEnumD w) :=
  pi_le (pi_en hg hm ha hs) fun pins s σ H R I ⟨B, G, δ, R', rel, hw, k⟩ => ⟨B, G, δ, _, rel, hw, fun vs H1 G1 os δ1 r1 s1 rel1 ok1 => by
    obtain ⟨G2, δ2, ds, q, s2, rel2, t⟩ := lkL_ok rel1 ok1 r1
    match ds, q with
    | [a], ⟨xs, ea, q⟩ =>
      obtain ⟨v, rfl, da⟩ := t.one
      obtain ⟨S, ws, rfl, t1, k1⟩ := dn_src da ea
      refine ⟨S, ws, rfl, k1 _ _ (Same.refl _) rel2.sg, fun z1 => k _ H1 G2 _ δ2 q (s1.trans s2) rel2 (walk_en k1 t1) ?_⟩
      rw [numbered_len, ← t1.len]; exact z1⟩
end
end DL
set_option Elab.async false
set_option linter.all false
set_option maxRecDepth 100000
set_option maxHeartbeats 4000000
universe u
namespace DL
open PySem PySem.Spec PyProof.Rows L2
variable [Tb]

/-- what simp does not look into -/
inductive Stop {α : Sort u} (R : α) : Type where
  | mk
def comC (g : DTG) (t : DT) (e : DE) (vs : List Nat) (xs acc : List PyData) (δ : DS) (R : List PyData → DS → Prop) (_u : Stop R) : Prop := compIt g t e vs xs acc δ R
def forC (g : DTG) (b : DTS) (xs : List PyData) (δ : DS) (E : DEnds) (_u : Stop E) : Prop := forIt g b xs E δ
def whileC (c : DT) (b : DTS) (δ : DS) (E : DEnds) (_u : Stop E) : Prop := wWhile c b E δ
def ask (sp : DSp) (cs : List Cell) (R : PyData → List Cell → Prop) (_u : Stop R) : Prop := sp cs R
def onS {α : Type} (o : Option α) (k : α → Prop) (_u : Stop k) : Prop := match o with
  | some z => k z
  | none => False
omit [Tb] in
@[simp ↓] theorem onS_some {α : Type} (z : α) (k : α → Prop) (u : Stop k) : onS (some z) k u = k z := rfl
theorem ex_some {α : Type} (o : Option α) (k : α → Prop) : (∃ z, o = some z ∧ k z) = onS o k .mk := by
  cases o <;> simp [onS]
theorem onS_of {α : Type} {o : Option α} {z : α} {k : α → Prop} {u : Stop k} (h : o = some z) (q : k z) : onS o k u := by rw [h]; exact q
def onIs (ds : List PyData) (k : List Int → Prop) (_u : Stop k) : Prop := ∃ ns : List Int, ds = ns.map PyData.int ∧ k ns
def onBs (ds : List PyData) (k : List Bool → Prop) (_u : Stop k) : Prop := ∃ ns : List Bool, ds = ns.map PyData.bool ∧ k ns
theorem map_int_inj : ∀ {ns ms : List Int}, ns.map PyData.int = ms.map PyData.int → ns = ms
  | [], [], _ => rfl
  | [], _ :: _, h => by cases h
  | _ :: _, [], h => by cases h
  | n :: ns, m :: ms, h => by
    simp only [List.map_cons, List.cons.injEq] at h
    obtain ⟨h1, h2⟩ := h
    cases h1
    rw [map_int_inj h2]
theorem map_bool_inj : ∀ {ns ms : List Bool}, ns.map PyData.bool = ms.map PyData.bool → ns = ms
  | [], [], _ => rfl
  | [], _ :: _, h => by cases h
  | _ :: _, [], h => by cases h
  | n :: ns, m :: ms, h => by
    simp only [List.map_cons, List.cons.injEq] at h
    obtain ⟨h1, h2⟩ := h
    cases h1
    rw [map_bool_inj h2]
omit [Tb] in
@[simp ↓] theorem onIs_i (ns : List Int) (k : List Int → Prop) (u : Stop k) : onIs (ns.map PyData.int) k u = k ns :=
  propext ⟨fun ⟨ms, e, h⟩ => by rw [map_int_inj e]; exact h, fun h => ⟨ns, rfl, h⟩⟩
omit [Tb] in
@[simp ↓] theorem onIs_f {α : Type} (as : List α) (f : α → Int) (k : List Int → Prop) (u : Stop k) : onIs (as.map fun a => PyData.int (f a)) k u = k (as.map f) := by
  have := onIs_i (as.map f) k u
  rw [List.map_map] at this; exact this
omit [Tb] in
@[simp ↓] theorem onBs_i (ns : List Bool) (k : List Bool → Prop) (u : Stop k) : onBs (ns.map PyData.bool) k u = k ns :=
  propext ⟨fun ⟨ms, e, h⟩ => by rw [map_bool_inj e]; exact h, fun h => ⟨ns, rfl, h⟩⟩
omit [Tb] in
@[simp ↓] theorem onBs_f {α : Type} (as : List α) (f : α → Bool) (k : List Bool → Prop) (u : Stop k) : onBs (as.map fun a => PyData.bool (f a)) k u = k (as.map f) := by
  have := onBs_i (as.map f) k u
  rw [List.map_map] at this; exact this
def allTr (bs : List Bool) : Bool := bs.all id
def anyTr (bs : List Bool) : Bool := bs.any id
def onD (o : Option Cell) (k : PyData → Prop) (_u : Stop k) : Prop := match o with
  | some (.d z) => k z
  | _ => False
omit [Tb] in
@[simp ↓] theorem onD_d (z : PyData) (k : PyData → Prop) (u : Stop k) : onD (some (.d z)) k u = k z := rfl
theorem ex_d (o : Option Cell) (k : PyData → Prop) : (∃ z, o = some (.d z) ∧ k z) = onD o k .mk := by
  cases o with
  | none => simp [onD]
  | some c => cases c <;> simp [onD]
def asB (x : PyData) (k : Bool → Prop) (_u : Stop k) : Prop := match x with
  | .bool b => k b
  | _ => False
def asI (x : PyData) (k : Int → Prop) (_u : Stop k) : Prop := match x with
  | .int b => k b
  | _ => False
omit [Tb] in
@[simp ↓] theorem asB_b (b : Bool) (k : Bool → Prop) (u : Stop k) : asB (.bool b) k u = k b := rfl
omit [Tb] in
@[simp ↓] theorem asI_i (b : Int) (k : Int → Prop) (u : Stop k) : asI (.int b) k u = k b := rfl
theorem ex_bool (x : PyData) (k : Bool → Prop) : (∃ b, x = .bool b ∧ k b) = asB x k .mk := by
  cases x <;> simp [asB]
theorem ex_int (x : PyData) (k : Int → Prop) : (∃ b, x = .int b ∧ k b) = asI x k .mk := by
  cases x <;> simp [asI]
omit [Tb] in
@[simp ↓] theorem wOfL_ap (w : DL) (δ : DS) (R : Opd → DS → Prop) : wOfL w δ R = (w δ fun xs δ' => R (.d (.list xs)) δ') := rfl
def varC (o : Option Cell) (i : Nat) (k : Opd → Prop) (_u : Stop k) : Prop := match o with
  | some (.d x) => k (.d x)
  | some .em => False
  | none => False
  | _ => k (.s i)
omit [Tb] in
@[simp ↓] theorem varC_d (x : PyData) (i : Nat) (k : Opd → Prop) (u : Stop k) : varC (some (.d x)) i k u = k (.d x) := rfl
omit [Tb] in
@[simp ↓] theorem varC_ol (a : Addr) (xs : List PyData) (i : Nat) (k : Opd → Prop) (u : Stop k) : varC (some (.ol a xs)) i k u = k (.s i) := rfl
omit [Tb] in
@[simp ↓] theorem varC_dk (a b c : Addr) (i : Nat) (k : Opd → Prop) (u : Stop k) : varC (some (.dk a b c)) i k u = k (.s i) := rfl
omit [Tb] in
@[simp ↓] theorem varC_dx (a b c : Addr) (xs : List Int) (n : Int) (ys : List Int) (i : Nat) (k : Opd → Prop) (u : Stop k) : varC (some (.dx a b c xs n ys)) i k u = k (.s i) := rfl
omit [Tb] in
@[simp ↓] theorem varC_scr (a : Addr) (ns : List Int) (i : Nat) (k : Opd → Prop) (u : Stop k) : varC (some (.scr a ns)) i k u = k (.s i) := rfl
def useC (o : Option Cell) (k : PyData → Prop) (_u : Stop k) : Prop := match o with
  | some (.d x) => k x
  | some (.ol _ xs) => k (.list xs)
  | _ => False
omit [Tb] in
@[simp ↓] theorem useC_d (x : PyData) (k : PyData → Prop) (u : Stop k) : useC (some (.d x)) k u = k x := rfl
omit [Tb] in
@[simp ↓] theorem useC_ol (a : Addr) (xs : List PyData) (k : PyData → Prop) (u : Stop k) : useC (some (.ol a xs)) k u = k (.list xs) := rfl
def lkC (o : Option Cell) (k l : PyData → Prop) (_u : Stop k) (_v : Stop l) : Prop := match o with
  | some (.d x) => k x
  | some (.ol _ xs) => l (.list xs)
  | _ => False
omit [Tb] in
@[simp ↓] theorem lkC_d (x : PyData) (k l : PyData → Prop) (u : Stop k) (v : Stop l) : lkC (some (.d x)) k l u v = k x := rfl
omit [Tb] in
@[simp ↓] theorem lkC_ol (a : Addr) (xs : List PyData) (k l : PyData → Prop) (u : Stop k) (v : Stop l) : lkC (some (.ol a xs)) k l u v = l (.list xs) := rfl
def olC (o : Option Cell) (k : Addr → List PyData → Prop) (_u : Stop k) : Prop := match o with
  | some (.ol a xs) => k a xs
  | _ => False
omit [Tb] in
@[simp ↓] theorem olC_ol (a : Addr) (xs : List PyData) (k : Addr → List PyData → Prop) (u : Stop k) : olC (some (.ol a xs)) k u = k a xs := rfl
def asS (x : PyData) (k : List PyData → Prop) (_u : Stop k) : Prop := match x with
  | .tuple xs => k xs
  | .list xs => k xs
  | _ => False
omit [Tb] in
@[simp ↓] theorem asS_t (xs : List PyData) (k : List PyData → Prop) (u : Stop k) : asS (.tuple xs) k u = k xs := rfl
omit [Tb] in
@[simp ↓] theorem asS_l (xs : List PyData) (k : List PyData → Prop) (u : Stop k) : asS (.list xs) k u = k xs := rfl
omit [Tb] in
@[simp ↓] theorem wVar_ap (i : Nat) (δ : DS) (R : Opd → DS → Prop) : wVar i δ R = varC δ[i]? i (fun o => R o δ) .mk := rfl
omit [Tb] in
@[simp ↓] theorem wC_ap (x : PyData) (δ : DS) (R : Opd → DS → Prop) : wC x δ R = (R (.d x) δ) := rfl
omit [Tb] in
@[simp ↓] theorem wNil_ap (δ : DS) (R : List Opd → DS → Prop) : wNil  δ R = (R [] δ) := rfl
omit [Tb] in
@[simp ↓] theorem wCons_ap (w : DE) (r : DA) (δ : DS) (R : List Opd → DS → Prop) : wCons w r δ R = (w δ fun o δ1 => r δ1 fun os δ2 => R (o :: os) δ2) := rfl
omit [Tb] in
@[simp ↓] theorem wOp_ap (p : P2) (wa wb : DE) (δ : DS) (R : Opd → DS → Prop) : wOp p wa wb δ R = (wa δ fun o1 δ1 => wb δ1 fun o2 δ2 => use o1 δ2 fun x => use o2 δ2 fun y => p x y fun z => R (.d z) δ2) := rfl
omit [Tb] in
@[simp ↓] theorem wB_ap (w : DE) (δ : DS) (R : Bool → DS → Prop) : wB w δ R = (w δ fun o δ1 => use o δ1 fun x => asB x (fun b => R b δ1) .mk) := by
  unfold wB; simp only [← ex_bool, ← ex_int]
omit [Tb] in
@[simp ↓] theorem wChain_ap (p q : P2) (wa wb wc : DE) (δ : DS) (R : Opd → DS → Prop) : wChain p q wa wb wc δ R = (wa δ fun o1 δ1 => wb δ1 fun o2 δ2 => use o1 δ2 fun x => use o2 δ2 fun y => p x y fun z => asB z (fun k =>
  if k = true then wc δ2 fun o3 δ3 => use o2 δ3 fun y => use o3 δ3 fun w => q y w fun z => R (.d z) δ3 else R (.d (.bool false)) δ2) .mk) := by
  unfold wChain; simp only [← ex_bool, ← ex_int]
omit [Tb] in
@[simp ↓] theorem wAnd_ap (t u : DT) (δ : DS) (R : Bool → DS → Prop) : wAnd t u δ R = (t δ fun k δ1 => if k = true then u δ1 R else R false δ1) := rfl
omit [Tb] in
@[simp ↓] theorem wOr_ap (t u : DT) (δ : DS) (R : Bool → DS → Prop) : wOr t u δ R = (t δ fun k δ1 => if k = true then R true δ1 else u δ1 R) := rfl
omit [Tb] in
@[simp ↓] theorem wNot_ap (t : DT) (δ : DS) (R : Bool → DS → Prop) : wNot t δ R = (t δ fun k δ1 => R (!k) δ1) := rfl
omit [Tb] in
@[simp ↓] theorem wAndV_ap (w u : DE) (δ : DS) (R : Opd → DS → Prop) : wAndV w u δ R = (w δ fun o δ1 => use o δ1 fun x => asB x (fun k => if k = true then u δ1 R else R (.d (.bool false)) δ1) .mk) := by
  unfold wAndV; simp only [← ex_bool, ← ex_int]
omit [Tb] in
@[simp ↓] theorem wOrV_ap (w u : DE) (δ : DS) (R : Opd → DS → Prop) : wOrV w u δ R = (w δ fun o δ1 => use o δ1 fun x => asB x (fun k => if k = true then R (.d (.bool true)) δ1 else u δ1 R) .mk) := by
  unfold wOrV; simp only [← ex_bool, ← ex_int]
omit [Tb] in
@[simp ↓] theorem wNotV_ap (w : DE) (δ : DS) (R : Opd → DS → Prop) : wNotV w δ R = (w δ fun o δ1 => use o δ1 fun x => asB x (fun k => R (.d (.bool (!k))) δ1) .mk) := by
  unfold wNotV; simp only [← ex_bool, ← ex_int]
omit [Tb] in
@[simp ↓] theorem wIfE_ap (t : DT) (wa wb : DE) (δ : DS) (R : Opd → DS → Prop) : wIfE t wa wb δ R = (t δ fun k δ1 => if k = true then wa δ1 R else wb δ1 R) := rfl
omit [Tb] in
@[simp ↓] theorem wUn_ap (p : PyData → (PyData → Prop) → Prop) (w : DE) (δ : DS) (R : Opd → DS → Prop) : wUn p w δ R = (w δ fun o δ1 => use o δ1 fun x => p x fun z => R (.d z) δ1) := rfl
omit [Tb] in
@[simp ↓] theorem wTup_ap (w : DA) (δ : DS) (R : Opd → DS → Prop) : wTup w δ R = (w δ fun os δ1 => lkL os δ1 fun xs δ2 => xs.length ≤ 1000 ∧ R (.d (.tuple xs)) δ2) := rfl
omit [Tb] in
@[simp ↓] theorem wLst_ap (w : DA) (δ : DS) (R : List PyData → DS → Prop) : wLst w δ R = (w δ fun os δ1 => lkL os δ1 fun xs δ2 => xs.length ≤ 1000 ∧ R xs δ2) := rfl
omit [Tb] in
@[simp ↓] theorem wDic_ap (δ : DS) (R : Opd → DS → Prop) : wDic  δ R = (R (.d (.dict [])) δ) := rfl
omit [Tb] in
@[simp ↓] theorem wFn_ap (p : PN) (w : DA) (δ : DS) (R : Opd → DS → Prop) : wFn p w δ R = (w δ fun os δ1 => useL os δ1 fun xs => p xs fun z => R (.d z) δ1) := rfl
omit [Tb] in
@[simp ↓] theorem wFnL_ap (p : List PyData → (List PyData → Prop) → Prop) (w : DA) (δ : DS) (R : List PyData → DS → Prop) : wFnL p w δ R = (w δ fun os δ1 => useL os δ1 fun xs => p xs fun z => R z δ1) := rfl
omit [Tb] in
@[simp ↓] theorem wOpL_ap (p : P2L) (wa wb : DE) (δ : DS) (R : List PyData → DS → Prop) : wOpL p wa wb δ R = (wa δ fun o1 δ1 => wb δ1 fun o2 δ2 => use o1 δ2 fun x => use o2 δ2 fun y => p x y fun z => R z δ2) := rfl
omit [Tb] in
@[simp ↓] theorem wNoP_ap (δ : DS) (R : Option Int → DS → Prop) : wNoP  δ R = (R none δ) := rfl
omit [Tb] in
@[simp ↓] theorem wPart_ap (w : DE) (δ : DS) (R : Option Int → DS → Prop) : wPart w δ R = (w δ fun o δ1 => use o δ1 fun x => asI x (fun i => R (some i) δ1) .mk) := by
  unfold wPart; simp only [← ex_bool, ← ex_int]
omit [Tb] in
@[simp ↓] theorem wSl_ap (p : P3) (w : DE) (l h : DO) (δ : DS) (R : Opd → DS → Prop) : wSl p w l h δ R = (w δ fun o δ1 => l δ1 fun i δ2 => h δ2 fun j δ3 => use o δ3 fun x => p x i j fun z => R (.d z) δ3) := rfl
omit [Tb] in
@[simp ↓] theorem pSub_ap (i j : Int) (R : PyData → Prop) : pSub (.int i) (.int j) R = (R (.int (i - j))) := rfl
omit [Tb] in
@[simp ↓] theorem pMul_intiintj (i : Int) (j : Int) (R : PyData → Prop) : pMul (.int i) (.int j) R = ((CMul i j ∨ CMulW i j) ∧ R (.int (i * j))) := rfl
omit [Tb] in
@[simp ↓] theorem pMul_listxsintk (xs : List PyData) (k : Int) (R : PyData → Prop) : pMul (.list xs) (.int k) R = (0 ≤ k ∧ xs.length * k.toNat ≤ 1000000 ∧ k < 1000000 ∧ R (.list (List.replicate k.toNat xs).flatten)) := rfl
omit [Tb] in
@[simp ↓] theorem pDiv_ap (i j : Int) (R : PyData → Prop) : pDiv (.int i) (.int j) R = ((0 < j ∧ j.natAbs.log2 < 9000) ∧ R (.int (i / j))) := rfl
omit [Tb] in
@[simp ↓] theorem pMod_ap (i j : Int) (R : PyData → Prop) : pMod (.int i) (.int j) R = (0 < j ∧ R (.int (i % j))) := rfl
omit [Tb] in
@[simp ↓] theorem pPow_ap (i j : Int) (R : PyData → Prop) : pPow (.int i) (.int j) R = (CPow i j ∧ R (.int (i ^ j.toNat))) := rfl
omit [Tb] in
@[simp ↓] theorem pShl_ap (i j : Int) (R : PyData → Prop) : pShl (.int i) (.int j) R = (CPow i j ∧ R (.int (i * 2 ^ j.toNat))) := rfl
omit [Tb] in
@[simp ↓] theorem pAnd_ap (i j : Int) (R : PyData → Prop) : pAnd (.int i) (.int j) R = (R (.int (Builtin.bitAnd i j))) := rfl
omit [Tb] in
@[simp ↓] theorem pOr_ap (i j : Int) (R : PyData → Prop) : pOr (.int i) (.int j) R = (R (.int (Builtin.bitOr i j))) := rfl
omit [Tb] in
@[simp ↓] theorem pLt_intiintj (i : Int) (j : Int) (R : PyData → Prop) : pLt (.int i) (.int j) R = (R (.bool (decide (i < j)))) := rfl
omit [Tb] in
@[simp ↓] theorem pLe_ap (i j : Int) (R : PyData → Prop) : pLe (.int i) (.int j) R = (R (.bool (decide (i ≤ j)))) := rfl
omit [Tb] in
@[simp ↓] theorem pGt_ap (i j : Int) (R : PyData → Prop) : pGt (.int i) (.int j) R = (R (.bool (decide (j < i)))) := rfl
omit [Tb] in
@[simp ↓] theorem pGe_ap (i j : Int) (R : PyData → Prop) : pGe (.int i) (.int j) R = (R (.bool (decide (j ≤ i)))) := rfl
omit [Tb] in
@[simp ↓] theorem pAdd_intiintj (i : Int) (j : Int) (R : PyData → Prop) : pAdd (.int i) (.int j) R = (R (.int (i + j))) := rfl
omit [Tb] in
@[simp ↓] theorem pAdd_strastrb (a : Str) (b : Str) (R : PyData → Prop) : pAdd (.str a) (.str b) R = (a.length + b.length ≤ 1000000 ∧ R (.str (a ++ b))) := rfl
omit [Tb] in
@[simp ↓] theorem pAdd_tuplexstupleys (xs : List PyData) (ys : List PyData) (R : PyData → Prop) : pAdd (.tuple xs) (.tuple ys) R = (xs.length + ys.length ≤ 1000000 ∧ R (.tuple (xs ++ ys))) := rfl
omit [Tb] in
@[simp ↓] theorem pAdd_listxslistys (xs : List PyData) (ys : List PyData) (R : PyData → Prop) : pAdd (.list xs) (.list ys) R = (xs.length + ys.length ≤ 1000000 ∧ R (.list (xs ++ ys))) := rfl
omit [Tb] in
@[simp ↓] theorem pIs_boolaboolb (a : Bool) (b : Bool) (R : PyData → Prop) : pIs (.bool a) (.bool b) R = (R (.bool (decide (a = b)))) := rfl
omit [Tb] in
@[simp ↓] theorem pIsNot_boolaboolb (a : Bool) (b : Bool) (R : PyData → Prop) : pIsNot (.bool a) (.bool b) R = (R (.bool (!decide (a = b)))) := rfl
omit [Tb] in
@[simp ↓] theorem pIx_l (ds : List PyData) (i : Int) (R : PyData → Prop) : pIx (.list ds) (.int i) R = onS (atI ds i) R .mk := by rw [← ex_some]; rfl
omit [Tb] in
@[simp ↓] theorem pIx_t (ds : List PyData) (i : Int) (R : PyData → Prop) : pIx (.tuple ds) (.int i) R = onS (atI ds i) R .mk := by rw [← ex_some]; rfl
omit [Tb] in
@[simp ↓] theorem pIx_s (z : Str) (i : Int) (R : PyData → Prop) : pIx (.str z) (.int i) R = (z.length ≤ 1000000 ∧ onS (atI z.cps.toList i) (fun c => R (.str ⟨#[c]⟩)) .mk) := by rw [← ex_some]; rfl
omit [Tb] in
@[simp ↓] theorem mE_ap (w : DE) (δ : DS) (R : Cell → DS → Prop) : mE w δ R = (w δ fun o δ1 => lk o δ1 fun x δ2 => R (.d x) δ2) := rfl
omit [Tb] in
@[simp ↓] theorem mL_ap (w : DL) (δ : DS) (R : Cell → DS → Prop) : mL w δ R = (w δ fun xs δ1 => ∀ a, R (.ol a xs) δ1) := rfl
omit [Tb] in
@[simp ↓] theorem msNil_ap (δ : DS) (R : List Cell → DS → Prop) : msNil  δ R = (R [] δ) := rfl
omit [Tb] in
@[simp ↓] theorem msCons_ap (w : DM) (r : DMs) (δ : DS) (R : List Cell → DS → Prop) : msCons w r δ R = (w δ fun c δ1 => r δ1 fun cs δ2 => R (c :: cs) δ2) := rfl
omit [Tb] in
@[simp ↓] theorem wNext_ap (E : DEnds) (δ : DS) : wNext  E δ = (E.nx δ) := rfl
omit [Tb] in
@[simp ↓] theorem wSeq_ap (t u : DTS) (E : DEnds) (δ : DS) : wSeq t u E δ = (t { E with nx := u E } δ) := rfl
omit [Tb] in
@[simp ↓] theorem wBrk_ap (E : DEnds) (δ : DS) : wBrk  E δ = (E.bk δ) := rfl
omit [Tb] in
@[simp ↓] theorem wCnt_ap (E : DEnds) (δ : DS) : wCnt  E δ = (E.ct δ) := rfl
omit [Tb] in
@[simp ↓] theorem wRet_ap (w : DE) (E : DEnds) (δ : DS) : wRet w E δ = (w δ fun o δ1 => lk o δ1 fun x δ2 => E.rt x δ2) := rfl
omit [Tb] in
@[simp ↓] theorem wRetN_ap (E : DEnds) (δ : DS) : wRetN  E δ = (E.rt .none δ) := rfl
omit [Tb] in
@[simp ↓] theorem wIf_ap (c : DT) (t u : DTS) (E : DEnds) (δ : DS) : wIf c t u E δ = (c δ fun b δ1 => if b = true then t E δ1 else u E δ1) := rfl
omit [Tb] in
@[simp ↓] theorem wNever_ap (x0 : DEnds) (x1 : DS) : wNever  x0 x1 = (False) := rfl
omit [Tb] in
@[simp ↓] theorem wDrop_ap (w : DE) (E : DEnds) (δ : DS) : wDrop w E δ = (w δ fun _ δ1 => E.nx δ1) := rfl
omit [Tb] in
@[simp ↓] theorem wSet_ap (i : Nat) (w : DM) (E : DEnds) (δ : DS) : wSet i w E δ = (w δ fun c δ1 => E.nx (δ1.set i c)) := rfl
omit [Tb] in
@[simp ↓] theorem wPar2_ap (i j : Nat) (w : DMs) (E : DEnds) (δ : DS) : wPar2 i j w E δ = (w δ fun cs δ1 => match cs with
  | [c, d] => E.nx ((δ1.set i c).set j d)
  | _ => False) := by
  unfold wPar2
  congr 1; funext cs δ1
  match cs with
  | [] => simp
  | [c] => simp
  | [c, d] => exact propext ⟨fun ⟨c', d', e, h⟩ => by cases e; exact h, fun h => ⟨c, d, rfl, h⟩⟩
  | c :: d :: e :: r => simp
omit [Tb] in
@[simp ↓] theorem wAug_ap (i : Nat) (p : P2) (w : DE) (E : DEnds) (δ : DS) : wAug i p w E δ = onD δ[i]? (fun x => w δ fun o δ1 => use o δ1 fun y => p x y fun z => E.nx (δ1.set i (.d z))) .mk := by
  rw [← ex_d]; rfl
omit [Tb] in
@[simp ↓] theorem gN_ap (i : Nat) (x : PyData) (δ : DS) (R : DS → Prop) : gN i x δ R = (R (δ.set i (.d x))) := rfl
omit [Tb] in
@[simp ↓] theorem gsNil_ap (xs : List PyData) (δ : DS) (R : DS → Prop) : gsNil  xs δ R = (match xs with
  | [] => R δ
  | _ => False) := rfl
omit [Tb] in
@[simp ↓] theorem gsCons_ap (g : DTG) (r : DTGs) (xs : List PyData) (δ : DS) (R : DS → Prop) : gsCons g r xs δ R = (match xs with
  | x :: xs => g x δ fun δ1 => r xs δ1 R
  | [] => False) := rfl
omit [Tb] in
@[simp ↓] theorem gT_ap (r : DTGs) (x : PyData) (δ : DS) (R : DS → Prop) : gT r x δ R = (match x with
  | .tuple xs => r xs δ R
  | _ => False) := rfl
omit [Tb] in
@[simp ↓] theorem iSeq_ap (w : DE) (δ : DS) (R : List PyData → DS → Prop) : iSeq w δ R = (w δ fun o δ1 => lk o δ1 fun x δ2 => asS x (fun xs => R xs δ2) .mk) := rfl
def rng1 (xs : List PyData) (k : Int → Prop) (_u : Stop k) : Prop := ∃ j, xs = [PyData.int j] ∧ k j
def rng2 (xs : List PyData) (k : Int → Int → Prop) (_u : Stop k) : Prop := ∃ i j, xs = [PyData.int i, PyData.int j] ∧ k i j
omit [Tb] in
@[simp ↓] theorem rng1_i (j : Int) (k : Int → Prop) (u : Stop k) : rng1 [.int j] k u = k j := propext ⟨fun ⟨_, e, h⟩ => by cases e; exact h, fun h => ⟨j, rfl, h⟩⟩
omit [Tb] in
@[simp ↓] theorem rng2_i (i j : Int) (k : Int → Int → Prop) (u : Stop k) : rng2 [.int i, .int j] k u = k i j := propext ⟨fun ⟨_, _, e, h⟩ => by cases e; exact h, fun h => ⟨i, j, rfl, h⟩⟩
omit [Tb] in
@[simp ↓] theorem iRange1_ap (w : DA) (δ : DS) (R : List PyData → DS → Prop) : iRange1 w δ R = (w δ fun os δ1 => useL os δ1 fun xs => rng1 xs (fun j => -1000000 ≤ j ∧ j ≤ 1000000 ∧ R (nums 0 j.toNat) δ1) .mk) := rfl
omit [Tb] in
@[simp ↓] theorem iRange2_ap (w : DA) (δ : DS) (R : List PyData → DS → Prop) : iRange2 w δ R = (w δ fun os δ1 => useL os δ1 fun xs => rng2 xs (fun i j => (-1000000 ≤ i ∧ i ≤ 1000000 ∧ -1000000 ≤ j ∧ j ≤ 1000000) ∧ R (nums i (j - i).toNat) δ1) .mk) := rfl
omit [Tb] in
@[simp ↓] theorem wFor_ap (wi : DL) (g : DTG) (b : DTS) (E : DEnds) (δ : DS) : wFor wi g b E δ = (wi δ fun xs δ1 => forC g b xs δ1 E .mk) := rfl
omit [Tb] in
@[simp ↓] theorem wWhile_ap (c : DT) (b : DTS) (E : DEnds) (δ : DS) : wWhile c b E δ = whileC c b δ E .mk := rfl
omit [Tb] in
@[simp ↓] theorem wComp_ap (wi : DL) (g : DTG) (t : DT) (e : DE) (vs : List Nat) (δ : DS) (R : List PyData → DS → Prop) : wComp wi g t e vs δ R = (wi δ fun xs δ1 => comC g t e vs xs [] (wipeD δ1 vs) (fun ys δ2 => R ys (backD δ1 δ2 vs)) .mk) := rfl
omit [Tb] in
@[simp ↓] theorem wAppend_ap (i : Nat) (w : DE) (E : DEnds) (δ : DS) : wAppend i w E δ = (isOl δ i ∧ w δ fun o δ1 => lk o δ1 fun y δ2 => olC δ2[i]? (fun a xs => xs.length ≤ 1000000 ∧ E.nx (δ2.set i (.ol a (xs ++ [y])))) .mk) := rfl
omit [Tb] in
@[simp ↓] theorem wExtend_ap (i : Nat) (w : DE) (E : DEnds) (δ : DS) : wExtend i w E δ = (isOl δ i ∧ w δ fun o δ1 => use o δ1 fun y => ∃ ys, y = .list ys ∧ olC δ1[i]? (fun a xs => xs.length + ys.length ≤ 1000000 ∧ E.nx (δ1.set i (.ol a (xs ++ ys)))) .mk) := rfl
omit [Tb] in
@[simp ↓] theorem wPut_ap (i : Nat) (we wi : DE) (E : DEnds) (δ : DS) : wPut i we wi E δ = (we δ fun o δ1 => lk o δ1 fun y δ2 => isOl δ2 i ∧ wi δ2 fun oj δ3 => use oj δ3 fun j => asI j (fun j => olC δ3[i]? (fun a xs => ∃ n, ixN xs.length j = some n ∧ E.nx (δ3.set i (.ol a (xs.set n y)))) .mk) .mk) := by
  unfold wPut
  congr 1; funext o δ1; congr 1; funext y δ2; congr 1; congr 1; funext oj δ3; congr 1; funext j
  cases j <;> simp only [asI]
  cases δ3[i]? with
  | none => rfl
  | some c => cases c <;> rfl
omit [Tb] in
@[simp ↓] theorem wPop_ap (i : Nat) (δ : DS) (R : Opd → DS → Prop) : wPop i δ R = olC δ[i]? (fun a xs => onS xs.getLast? (fun y => R (.d y) (δ.set i (.ol a xs.dropLast))) .mk) .mk := by
  unfold wPop
  cases δ[i]? with
  | none => rfl
  | some c => cases c <;> first | rfl | exact ex_some _ _
omit [Tb] in
@[simp ↓] theorem wCall_ap (m : List Bool) (sp : DSp) (w : DA) (δ : DS) (R : Opd → DS → Prop) : wCall m sp w δ R = (w δ fun os δ1 => lkM m os δ1 fun os' δ2 => (slotsOf os').Nodup ∧ ask sp (os'.map (cellOf δ2)) (fun x cs => R (.d x) (putBack os' cs δ2)) .mk) := rfl
omit [Tb] in
@[simp ↓] theorem iZip2_ap (w : DA) (δ : DS) (R : List PyData → DS → Prop) : iZip2 w δ R = (w δ fun os δ1 => lkL os δ1 fun ds δ2 => match ds with
  | [a, b] => onS (seqOf a) (fun xs => onS (seqOf b) (fun ys => R (pairsD xs ys) δ2) .mk) .mk
  | _ => False) := by
  unfold iZip2; simp only [← ex_some, ← exists_and_left] <;> rfl
omit [Tb] in
@[simp ↓] theorem iZip3_ap (w : DA) (δ : DS) (R : List PyData → DS → Prop) : iZip3 w δ R = (w δ fun os δ1 => lkL os δ1 fun ds δ2 => match ds with
  | [a, b, c] => onS (seqOf a) (fun xs => onS (seqOf b) (fun ys => onS (seqOf c) (fun zs => R (triosD xs ys zs) δ2) .mk) .mk) .mk
  | _ => False) := by
  unfold iZip3; simp only [← ex_some, ← exists_and_left] <;> rfl
omit [Tb] in
@[simp ↓] theorem iEnumD_ap (w : DA) (δ : DS) (R : List PyData → DS → Prop) : iEnumD w δ R = (w δ fun os δ1 => lkL os δ1 fun ds δ2 => match ds with
  | [a] => onS (seqOf a) (fun xs => R (numbered 0 xs) δ2) .mk
  | _ => False) := by
  unfold iEnumD; simp only [← ex_some] <;> rfl
omit [Tb] in
@[simp ↓] theorem use_d (x : PyData) (δ : DS) (k : PyData → Prop) : use (.d x) δ k = k x := rfl
omit [Tb] in
@[simp ↓] theorem use_s (i : Nat) (δ : DS) (k : PyData → Prop) : use (.s i) δ k = useC δ[i]? k .mk := rfl
omit [Tb] in
@[simp ↓] theorem lk_d (x : PyData) (δ : DS) (k : PyData → DS → Prop) : lk (.d x) δ k = k x δ := rfl
omit [Tb] in
@[simp ↓] theorem lk_s (i : Nat) (δ : DS) (k : PyData → DS → Prop) : lk (.s i) δ k = lkC δ[i]? (fun x => k x δ) (fun x => k x (δ.set i (.d x))) .mk .mk := by
  show (match δ[i]? with
    | some (.d x) => k x δ
    | some (.ol _ xs) => k (.list xs) (δ.set i (.d (.list xs)))
    | _ => False) = _
  unfold lkC
  cases δ[i]? with
  | none => rfl
  | some c => cases c <;> rfl
omit [Tb] in
@[simp ↓] theorem useL_nil (δ : DS) (k : List PyData → Prop) : useL [] δ k = k [] := rfl
omit [Tb] in
@[simp ↓] theorem useL_cons (o : Opd) (os : List Opd) (δ : DS) (k : List PyData → Prop) : useL (o :: os) δ k = (use o δ fun x => useL os δ fun xs => k (x :: xs)) := rfl
omit [Tb] in
@[simp ↓] theorem lkL_nil (δ : DS) (k : List PyData → DS → Prop) : lkL [] δ k = k [] δ := rfl
omit [Tb] in
@[simp ↓] theorem lkL_cons (o : Opd) (os : List Opd) (δ : DS) (k : List PyData → DS → Prop) : lkL (o :: os) δ k = (lk o δ fun x δ1 => lkL os δ1 fun xs δ2 => k (x :: xs) δ2) := rfl
omit [Tb] in
@[simp ↓] theorem lkM_nil (m : List Bool) (δ : DS) (k : List Opd → DS → Prop) : lkM m [] δ k = k [] δ := by unfold lkM; rfl
omit [Tb] in
@[simp ↓] theorem lkM_t (m : List Bool) (o : Opd) (os : List Opd) (δ : DS) (k : List Opd → DS → Prop) : lkM (true :: m) (o :: os) δ k = (lkM m os δ fun r δ' => k (o :: r) δ') := by
  conv => lhs; unfold lkM
  rfl
omit [Tb] in
@[simp ↓] theorem lkM_f (m : List Bool) (o : Opd) (os : List Opd) (δ : DS) (k : List Opd → DS → Prop) : lkM (false :: m) (o :: os) δ k = (lk o δ fun x δ1 => lkM m os δ1 fun r δ' => k (.d x :: r) δ') := by
  conv => lhs; unfold lkM
  rfl
omit [Tb] in
@[simp ↓] theorem lkM_0 (o : Opd) (os : List Opd) (δ : DS) (k : List Opd → DS → Prop) : lkM [] (o :: os) δ k = (lk o δ fun x δ1 => lkM [] os δ1 fun r δ' => k (.d x :: r) δ') := by
  conv => lhs; unfold lkM
  rfl
omit [Tb] in
@[simp] theorem cellOf_d (δ : DS) (x : PyData) : cellOf δ (.d x) = .d x := rfl
omit [Tb] in
@[simp] theorem cellOf_s (δ : DS) (i : Nat) : cellOf δ (.s i) = (δ[i]?).getD .em := rfl
omit [Tb] in
@[simp ↓] theorem putBack_nil (cs : List Cell) (δ : DS) : putBack [] cs δ = δ := by cases cs <;> rfl
omit [Tb] in
@[simp ↓] theorem putBack_s (i : Nat) (os : List Opd) (c : Cell) (cs : List Cell) (δ : DS) : putBack (.s i :: os) (c :: cs) δ = putBack os cs (δ.set i c) := rfl
omit [Tb] in
@[simp ↓] theorem putBack_d (x : PyData) (os : List Opd) (c : Cell) (cs : List Cell) (δ : DS) : putBack (.d x :: os) (c :: cs) δ = putBack os cs δ := rfl
omit [Tb] in
@[simp] theorem slotsOf_nil : slotsOf [] = [] := rfl
omit [Tb] in
@[simp] theorem slotsOf_s (i : Nat) (os : List Opd) : slotsOf (.s i :: os) = i :: slotsOf os := rfl
omit [Tb] in
@[simp] theorem slotsOf_d (x : PyData) (os : List Opd) : slotsOf (.d x :: os) = slotsOf os := rfl
omit [Tb] in
@[simp ↓] theorem pNeg_i (i : Int) (R : PyData → Prop) : pNeg (.int i) R = R (.int (-i)) := rfl
omit [Tb] in
@[simp ↓] theorem pIs_n (x : PyData) (R : PyData → Prop) : pIs x .none R = R (.bool (isNone x)) := by cases x <;> rfl
omit [Tb] in
@[simp ↓] theorem pIsNot_n (x : PyData) (R : PyData → Prop) : pIsNot x .none R = R (.bool (!isNone x)) := by cases x <;> rfl
omit [Tb] in
@[simp ↓] theorem isNone_n : isNone .none = true := rfl
omit [Tb] in
@[simp ↓] theorem isNone_i (i : Int) : isNone (.int i) = false := rfl
omit [Tb] in
@[simp ↓] theorem isNone_b (i : Bool) : isNone (.bool i) = false := rfl
omit [Tb] in
@[simp ↓] theorem isNone_s (i : Str) : isNone (.str i) = false := rfl
omit [Tb] in
@[simp ↓] theorem isNone_l (i : List PyData) : isNone (.list i) = false := rfl
omit [Tb] in
@[simp ↓] theorem isNone_t (i : List PyData) : isNone (.tuple i) = false := rfl
omit [Tb] in
@[simp ↓] theorem isNone_d (i : List (PyData × PyData)) : isNone (.dict i) = false := rfl
omit [Tb] in
@[simp ↓] theorem pAddL_ll (xs ys : List PyData) (R : List PyData → Prop) : pAddL (.list xs) (.list ys) R = (xs.length + ys.length ≤ 1000000 ∧ R (xs ++ ys)) := rfl
omit [Tb] in
@[simp ↓] theorem pMulL_ll (xs : List PyData) (k : Int) (R : List PyData → Prop) : pMulL (.list xs) (.int k) R = (0 ≤ k ∧ xs.length * k.toNat ≤ 1000000 ∧ k < 1000000 ∧ R (List.replicate k.toNat xs).flatten) := rfl
omit [Tb] in
@[simp ↓] theorem pIn_l (x : PyData) (ds : List PyData) (R : PyData → Prop) : pIn x (.list ds) R = (SeqAt.shaped x = true ∧ SeqAt.shaped (.list ds) = true ∧ R (.bool (ds.any fun z => PyData.eqv z x))) := rfl
omit [Tb] in
@[simp ↓] theorem pIn_t (x : PyData) (ds : List PyData) (R : PyData → Prop) : pIn x (.tuple ds) R = (SeqAt.shaped x = true ∧ SeqAt.shaped (.tuple ds) = true ∧ R (.bool (ds.any fun z => PyData.eqv z x))) := rfl
omit [Tb] in
@[simp ↓] theorem pIn_s (x : PyData) (z : Str) (R : PyData → Prop) : pIn x (.str z) R = (∃ c : Nat, x = .str ⟨#[c]⟩ ∧ R (.bool (decide (c ∈ z.cps.toList)))) := rfl
omit [Tb] in
@[simp ↓] theorem pNotIn_l (x : PyData) (ds : List PyData) (R : PyData → Prop) : pNotIn x (.list ds) R = (SeqAt.shaped x = true ∧ SeqAt.shaped (.list ds) = true ∧ R (.bool (!ds.any fun z => PyData.eqv z x))) := rfl
omit [Tb] in
@[simp ↓] theorem pNotIn_t (x : PyData) (ds : List PyData) (R : PyData → Prop) : pNotIn x (.tuple ds) R = (SeqAt.shaped x = true ∧ SeqAt.shaped (.tuple ds) = true ∧ R (.bool (!ds.any fun z => PyData.eqv z x))) := rfl
omit [Tb] in
@[simp ↓] theorem pNotIn_s (x : PyData) (z : Str) (R : PyData → Prop) : pNotIn x (.str z) R = (∃ c : Nat, x = .str ⟨#[c]⟩ ∧ R (.bool (!decide (c ∈ z.cps.toList)))) := rfl
omit [Tb] in
@[simp ↓] theorem pSl_l (ds : List PyData) (lo hi : Option Int) (R : PyData → Prop) : pSl (.list ds) lo hi R = R (.list (cutD ds lo hi)) := rfl
omit [Tb] in
@[simp ↓] theorem pSl_t (ds : List PyData) (lo hi : Option Int) (R : PyData → Prop) : pSl (.tuple ds) lo hi R = R (.tuple (cutD ds lo hi)) := rfl
omit [Tb] in
@[simp ↓] theorem pSl_s (z : Str) (lo hi : Option Int) (R : PyData → Prop) : pSl (.str z) lo hi R = (z.length ≤ 1000000 ∧ R (.str (cutS z lo hi))) := rfl
omit [Tb] in
@[simp ↓] theorem pLen_l (ds : List PyData) (R : PyData → Prop) : pLen [.list ds] R = R (.int ds.length) := rfl
omit [Tb] in
@[simp ↓] theorem pLen_t (ds : List PyData) (R : PyData → Prop) : pLen [.tuple ds] R = R (.int ds.length) := rfl
omit [Tb] in
@[simp ↓] theorem pLen_s (z : Str) (R : PyData → Prop) : pLen [.str z] R = (z.length ≤ 1000000 ∧ R (.int z.length)) := rfl
omit [Tb] in
@[simp ↓] theorem pTupOf_l (ds : List PyData) (R : PyData → Prop) : pTupOf [.list ds] R = R (.tuple ds) := rfl
omit [Tb] in
@[simp ↓] theorem pTupOf_t (ds : List PyData) (R : PyData → Prop) : pTupOf [.tuple ds] R = R (.tuple ds) := rfl
omit [Tb] in
@[simp ↓] theorem pLstOf_l (ds : List PyData) (R : List PyData → Prop) : pLstOf [.list ds] R = R ds := rfl
omit [Tb] in
@[simp ↓] theorem pLstOf_t (ds : List PyData) (R : List PyData → Prop) : pLstOf [.tuple ds] R = R ds := rfl
omit [Tb] in
@[simp ↓] theorem pInt_i (i : Int) (R : PyData → Prop) : pInt [.int i] R = R (.int i) := rfl
omit [Tb] in
@[simp ↓] theorem pInt_b (b : Bool) (R : PyData → Prop) : pInt [.bool b] R = R (.int (if b then 1 else 0)) := rfl
omit [Tb] in
@[simp ↓] theorem pInt_s (z : Str) (R : PyData → Prop) : pInt [.str z] R = (∃ n, PySem.intText? z = some n ∧ z.length ≤ 640 ∧ R (.int n)) := rfl
omit [Tb] in
@[simp ↓] theorem pBool_i (i : Int) (R : PyData → Prop) : pBool [.int i] R = R (.bool (i != 0)) := rfl
omit [Tb] in
@[simp ↓] theorem pBool_b (b : Bool) (R : PyData → Prop) : pBool [.bool b] R = R (.bool b) := rfl
omit [Tb] in
@[simp ↓] theorem pStr_i (i : Int) (R : PyData → Prop) : pStr [.int i] R = (i.natAbs.log2 < 1920 ∧ R (.str (toString i))) := rfl
omit [Tb] in
@[simp ↓] theorem pStr_s (z : Str) (R : PyData → Prop) : pStr [.str z] R = R (.str z) := rfl
omit [Tb] in
@[simp ↓] theorem pAbs_i (i : Int) (R : PyData → Prop) : pAbs [.int i] R = R (.int (if i < 0 then -i else i)) := rfl
omit [Tb] in
@[simp ↓] theorem pMax2_i (i j : Int) (R : PyData → Prop) : pMax2 [.int i, .int j] R = R (.int (if j > i then j else i)) := rfl
omit [Tb] in
@[simp ↓] theorem pMin2_i (i j : Int) (R : PyData → Prop) : pMin2 [.int i, .int j] R = R (.int (if j < i then j else i)) := rfl
omit [Tb] in
@[simp ↓] theorem pSum_l (ds : List PyData) (R : PyData → Prop) : pSum [.list ds] R = onIs ds (fun ns => R (.int ns.sum)) .mk := rfl
omit [Tb] in
@[simp ↓] theorem pMax_l (ds : List PyData) (R : PyData → Prop) : pMax [.list ds] R = onIs ds (fun ns => 0 < ns.length ∧ ∀ m, m ∈ ns → (∀ y ∈ ns, y ≤ m) → R (.int m)) .mk := rfl
omit [Tb] in
@[simp ↓] theorem pMin_l (ds : List PyData) (R : PyData → Prop) : pMin [.list ds] R = onIs ds (fun ns => 0 < ns.length ∧ ∀ m, m ∈ ns → (∀ y ∈ ns, m ≤ y) → R (.int m)) .mk := rfl
omit [Tb] in
@[simp ↓] theorem pAll_l (ds : List PyData) (R : PyData → Prop) : pAll [.list ds] R = onBs ds (fun bs => R (.bool (allTr bs))) .mk := rfl
omit [Tb] in
@[simp ↓] theorem pAny_l (ds : List PyData) (R : PyData → Prop) : pAny [.list ds] R = onBs ds (fun bs => R (.bool (anyTr bs))) .mk := rfl
omit [Tb] in
@[simp ↓] theorem pRepr_x (x : PyData) (R : PyData → Prop) : pRepr [x] R = (x.showable = true ∧ x.hasDict = false ∧ x.depth ≤ 60 ∧ x.shown.length ≤ 16000000 ∧ R (.str x.shown)) := rfl
omit [Tb] in
@[simp ↓] theorem wIsi_ap (T : String) (w : DE) (δ : DS) (R : Opd → DS → Prop) : wIsi T w δ R = (w δ fun o δ1 => use o δ1 fun x => R (.d (.bool (isTy T x))) δ1) := rfl
omit [Tb] in
@[simp ↓] theorem wRevL_ap (w : DE) (δ : DS) (R : Opd → DS → Prop) : wRevL w δ R = (w δ fun o δ1 => use o δ1 fun x => ∃ ds, x = .list ds ∧ R (.d (.list ds.reverse)) δ1) := rfl
omit [Tb] in
@[simp] theorem tT_ap (δ : DS) (R : Bool → DS → Prop) : tT δ R = R true δ := rfl
omit [Tb] in
@[simp ↓] theorem wipeD_nil (δ : DS) : wipeD δ [] = δ := rfl
omit [Tb] in
@[simp ↓] theorem wipeD_cons (δ : DS) (v : Nat) (vs : List Nat) : wipeD δ (v :: vs) = (wipeD δ vs).set v .em := rfl
omit [Tb] in
@[simp] theorem backD_nil (δ0 δ : DS) : backD δ0 δ [] = δ := rfl
omit [Tb] in
@[simp] theorem backD_cons (δ0 δ : DS) (v : Nat) (vs : List Nat) : backD δ0 δ (v :: vs) = (backD δ0 δ vs).set v (keepC ((δ0[v]?).getD .em)) := rfl
omit [Tb] in
@[simp] theorem keepC_d (x : PyData) : keepC (.d x) = .d x := rfl
omit [Tb] in
@[simp] theorem keepC_em : keepC .em = .em := rfl
omit [Tb] in
@[simp ↓] theorem isOl_ol (a : Addr) (xs : List PyData) (δ : DS) (i : Nat) (h : δ[i]? = some (.ol a xs)) : isOl δ i = True := eq_true ⟨a, xs, h⟩
omit [Tb] in
@[simp] theorem seqOf_l (xs : List PyData) : seqOf (.list xs) = some xs := rfl
omit [Tb] in
@[simp] theorem seqOf_t (xs : List PyData) : seqOf (.tuple xs) = some xs := rfl
omit [Tb] in
@[simp] theorem endsOf_nx (cs : List Cell) (R : PyData → List Cell → Prop) (δ : DS) : (endsOf cs R).nx δ = (sameIo cs δ ∧ R .none (outC cs δ)) := rfl
omit [Tb] in
@[simp] theorem endsOf_rt (cs : List Cell) (R : PyData → List Cell → Prop) (x : PyData) (δ : DS) : (endsOf cs R).rt x δ = (sameIo cs δ ∧ R x (outC cs δ)) := rfl
omit [Tb] in
@[simp] theorem sameIo_nil (δ : DS) : sameIo [] δ = True := by unfold sameIo; rfl
omit [Tb] in
@[simp] theorem sameIo_d (x : PyData) (cs : List Cell) (e : Cell) (δ : DS) : sameIo (.d x :: cs) (e :: δ) = sameIo cs δ := rfl
omit [Tb] in
@[simp] theorem sameIo_em (cs : List Cell) (e : Cell) (δ : DS) : sameIo (.em :: cs) (e :: δ) = sameIo cs δ := rfl
omit [Tb] in
@[simp] theorem sameIo_scr (a : Addr) (ns : List Int) (cs : List Cell) (e : Cell) (δ : DS) : sameIo (.scr a ns :: cs) (e :: δ) = sameIo cs δ := rfl
omit [Tb] in
@[simp] theorem sameIo_ol (a : Addr) (xs : List PyData) (cs : List Cell) (e : Cell) (δ : DS) : sameIo (.ol a xs :: cs) (e :: δ) = ((∃ ys, e = .ol a ys) ∧ sameIo cs δ) := rfl
omit [Tb] in
@[simp] theorem sameIo_dk (a b c : Addr) (cs : List Cell) (e : Cell) (δ : DS) : sameIo (.dk a b c :: cs) (e :: δ) = (e = .dk a b c ∧ sameIo cs δ) := rfl
omit [Tb] in
@[simp] theorem outC_nil (δ : DS) : outC [] δ = [] := by unfold outC; rfl
omit [Tb] in
@[simp] theorem outC_d (x : PyData) (cs : List Cell) (e : Cell) (δ : DS) : outC (.d x :: cs) (e :: δ) = .d x :: outC cs δ := rfl
omit [Tb] in
@[simp] theorem outC_em (cs : List Cell) (e : Cell) (δ : DS) : outC (.em :: cs) (e :: δ) = .em :: outC cs δ := rfl
omit [Tb] in
@[simp] theorem outC_scr (a : Addr) (ns : List Int) (cs : List Cell) (e : Cell) (δ : DS) : outC (.scr a ns :: cs) (e :: δ) = .scr a ns :: outC cs δ := rfl
omit [Tb] in
@[simp] theorem outC_ol (a : Addr) (xs : List PyData) (cs : List Cell) (e : Cell) (δ : DS) : outC (.ol a xs :: cs) (e :: δ) = e :: outC cs δ := rfl
omit [Tb] in
@[simp] theorem outC_dk (a b c : Addr) (cs : List Cell) (e : Cell) (δ : DS) : outC (.dk a b c :: cs) (e :: δ) = e :: outC cs δ := rfl
omit [Tb] in
@[simp] theorem start0_ap (n : Nat) (cs : List Cell) : start0 n cs = cs ++ List.replicate (n - cs.length) .em := rfl
theorem for_inv {g : DTG} {b : DTS} {xs : List PyData} {δ : DS} {E : DEnds} {u : Stop E} (P : List PyData → DS → Prop) (Q : DS → Prop) (Z : PyData → DS → Prop) (h : P xs δ) (h0 : ∀ δ, P [] δ → E.nx δ) (hq : ∀ δ, Q δ → E.nx δ) (hz : ∀ x δ, Z x δ → E.rt x δ)
    (hs : ∀ x xs δ, P (x :: xs) δ → ∀ (K B : DS → Prop) (T : PyData → DS → Prop), (∀ δ', P xs δ' → K δ') → (∀ δ', Q δ' → B δ') → (∀ x δ', Z x δ' → T x δ') → g x δ fun δ1 => b { nx := K, rt := T, bk := B, ct := K } δ1) : forC g b xs δ E u := by
  show forIt g b xs E δ
  induction xs generalizing δ with
  | nil => exact h0 δ h
  | cons x xs ih => exact hs x xs δ h _ _ _ (fun δ' p => ih p) hq hz
theorem com_inv {g : DTG} {t : DT} {e : DE} {vs : List Nat} {xs acc : List PyData} {δ : DS} {R : List PyData → DS → Prop} {u : Stop R} (P : List PyData → List PyData → DS → Prop) (h : P xs acc δ) (h0 : ∀ acc δ, P [] acc δ → R acc δ)
    (hs : ∀ x xs acc δ, P (x :: xs) acc δ → ∀ K : List PyData → DS → Prop, (∀ acc' δ', P xs acc' δ' → K acc' δ') → g x δ fun δ1 => t δ1 fun b δ2 => if b = true then e δ2 fun o δ3 => lk o δ3 fun y δ4 => K (acc ++ [y]) (wipeD δ4 vs) else K acc (wipeD δ2 vs)) : comC g t e vs xs acc δ R u := by
  show compIt g t e vs xs acc δ R
  induction xs generalizing acc δ with
  | nil => exact h0 acc δ h
  | cons x xs ih => exact hs x xs acc δ h (fun acc' δ' => compIt g t e vs xs acc' δ' R) fun acc' δ' p => ih p
/-- each item by one of many -/
theorem com_any {g : DTG} {t : DT} {e : DE} {vs : List Nat} {xs : List PyData} {δ : DS} {R : List PyData → DS → Prop} {u : Stop R} (Q : PyData → Prop)
    (hs : ∀ x ∈ xs, ∀ (acc : List PyData) (K : List PyData → DS → Prop), (∀ y, Q y → K (acc ++ [y]) δ) → g x δ fun δ1 => t δ1 fun b δ2 => if b = true then e δ2 fun o δ3 => lk o δ3 fun y δ4 => K (acc ++ [y]) (wipeD δ4 vs) else K acc (wipeD δ2 vs)) (k : ∀ ys, ys.length = xs.length → (∀ y ∈ ys, Q y) → R ys δ) : comC g t e vs xs [] δ R u := by
  refine com_inv (fun ys acc δ' => δ' = δ ∧ (∀ x ∈ ys, x ∈ xs) ∧ (∀ y ∈ acc, Q y) ∧ acc.length + ys.length = xs.length) ⟨rfl, fun _ h => h, by simp, by simp⟩ ?_ ?_
  · rintro acc δ' ⟨rfl, _, h, hl⟩
    exact k acc (by simpa using hl) h
  · rintro x ys acc δ' ⟨rfl, hm, h, hl⟩ K hK
    refine hs x (hm x (List.mem_cons_self ..)) acc K fun y qy => hK _ _ ⟨rfl, fun y hy => hm y (List.mem_cons_of_mem _ hy), fun z hz => ?_, by simp at hl ⊢; omega⟩
    rcases List.mem_append.mp hz with q | q
    · exact h z q
    · rw [List.mem_singleton.mp q]; exact qy
theorem ints_of : ∀ {ys : List PyData} {P : Int → Prop}, (∀ y ∈ ys, ∃ i, y = .int i ∧ P i) → ∃ ns : List Int, ys = ns.map PyData.int ∧ ∀ i ∈ ns, P i
  | [], _, _ => ⟨[], rfl, by simp⟩
  | y :: ys, P, h => by
    obtain ⟨i, rfl, hi⟩ := h y (List.mem_cons_self ..)
    obtain ⟨ns, rfl, hn⟩ := ints_of (ys := ys) fun z hz => h z (List.mem_cons_of_mem _ hz)
    exact ⟨i :: ns, rfl, fun j hj => by
      rcases List.mem_cons.mp hj with q | q
      · rw [q]; exact hi
      · exact hn j q⟩
/-- .. that are numbers -/
theorem com_ints {g : DTG} {t : DT} {e : DE} {vs : List Nat} {xs : List PyData} {δ : DS} {R : List PyData → DS → Prop} {u : Stop R} (P : Int → Prop)
    (hs : ∀ x ∈ xs, ∀ (acc : List PyData) (K : List PyData → DS → Prop), (∀ i, P i → K (acc ++ [.int i]) δ) → g x δ fun δ1 => t δ1 fun b δ2 => if b = true then e δ2 fun o δ3 => lk o δ3 fun y δ4 => K (acc ++ [y]) (wipeD δ4 vs) else K acc (wipeD δ2 vs)) (k : ∀ ns : List Int, ns.length = xs.length → (∀ i ∈ ns, P i) → R (ns.map PyData.int) δ) : comC g t e vs xs [] δ R u :=
  com_any (fun y => ∃ i, y = .int i ∧ P i) (fun x hx acc K hK => hs x hx acc K fun i hi => hK _ ⟨i, rfl, hi⟩) fun ys hl hy => by
    obtain ⟨ns, rfl, hn⟩ := ints_of hy
    exact k ns (by simpa using hl) hn
omit [Tb] in
@[simp ↓] theorem pEq_ii (i j : Int) (R : PyData → Prop) : pEq (.int i) (.int j) R = R (.bool (decide (i = j))) := by
  unfold pEq; simp [sc2, PyData.eqv]; rfl
omit [Tb] in
@[simp ↓] theorem pEq_ss (i j : Str) (R : PyData → Prop) : pEq (.str i) (.str j) R = R (.bool (decide (i = j))) := by
  unfold pEq; simp [sc2, PyData.eqv]
  have : (i == j) = decide (i = j) := by rw [Bool.eq_iff_iff]; simp
  rw [this]
omit [Tb] in
@[simp ↓] theorem pEq_bb (i j : Bool) (R : PyData → Prop) : pEq (.bool i) (.bool j) R = R (.bool (i == j)) := by
  unfold pEq; simp [sc2, PyData.eqv]
omit [Tb] in
@[simp ↓] theorem pEq_tt (xs ys : List PyData) (R : PyData → Prop) : pEq (.tuple xs) (.tuple ys) R = (SeqAt.shaped (.tuple xs) = true ∧ SeqAt.shaped (.tuple ys) = true ∧ R (.bool (PyData.eqvAll xs ys))) := by
  unfold pEq; simp [sc2, PyData.eqv, and_assoc]
omit [Tb] in
@[simp ↓] theorem pEq_ll (xs ys : List PyData) (R : PyData → Prop) : pEq (.list xs) (.list ys) R = (SeqAt.shaped (.list xs) = true ∧ SeqAt.shaped (.list ys) = true ∧ R (.bool (PyData.eqvAll xs ys))) := by
  unfold pEq; simp [sc2, PyData.eqv, and_assoc]
omit [Tb] in
@[simp ↓] theorem pNe_ii (i j : Int) (R : PyData → Prop) : pNe (.int i) (.int j) R = R (.bool (!decide (i = j))) := by
  unfold pNe; simp [sc2, PyData.eqv]; rfl
omit [Tb] in
@[simp ↓] theorem pNe_ss (i j : Str) (R : PyData → Prop) : pNe (.str i) (.str j) R = R (.bool (!decide (i = j))) := by
  unfold pNe; simp [sc2, PyData.eqv]
  have : (i == j) = decide (i = j) := by rw [Bool.eq_iff_iff]; simp
  simp only [bne, this]
omit [Tb] in
@[simp ↓] theorem pNe_bb (i j : Bool) (R : PyData → Prop) : pNe (.bool i) (.bool j) R = R (.bool (!(i == j))) := by
  unfold pNe; simp [sc2, PyData.eqv]
omit [Tb] in
@[simp ↓] theorem pNe_tt (xs ys : List PyData) (R : PyData → Prop) : pNe (.tuple xs) (.tuple ys) R = (SeqAt.shaped (.tuple xs) = true ∧ SeqAt.shaped (.tuple ys) = true ∧ R (.bool (!PyData.eqvAll xs ys))) := by
  unfold pNe; simp [sc2, PyData.eqv, and_assoc]
omit [Tb] in
@[simp ↓] theorem pNe_ll (xs ys : List PyData) (R : PyData → Prop) : pNe (.list xs) (.list ys) R = (SeqAt.shaped (.list xs) = true ∧ SeqAt.shaped (.list ys) = true ∧ R (.bool (!PyData.eqvAll xs ys))) := by
  unfold pNe; simp [sc2, PyData.eqv, and_assoc]
end DL
set_option Elab.async false
set_option linter.all false
set_option maxRecDepth 100000
set_option maxHeartbeats 4000000
namespace DL
open PySem PySem.Spec PyProof.Rows L2
variable [Tb]

section
variable {K : PySem.W.Frag} {B B0 G H : Hp} {δ : DS} {σ : L2.St}
theorem Rel.less (R : Rel K B G δ σ H) (h : ∀ a, B0 a = B a ∨ B0 a = none) : Rel K B0 G δ σ H := by
  refine ⟨R.len, R.sg, fun a o e => ?_, fun a => ?_, R.ok, R.ap, fun i c a e m => ?_, ⟨R.tt.t, R.tt.n.lessB fun a o e => by
    rcases h a with z | z
    · rw [z] at e; exact e
    · rw [z] at e; cases e⟩⟩
  · rcases h a with z | z
    · rw [z] at e; exact R.sb _ _ e
    · rw [z] at e; cases e
  · rcases h a with z | z
    · rw [z]; exact R.dj a
    · exact .inr z
  · obtain ⟨f1, f2⟩ := R.fr i c a e m
    refine ⟨f1, ?_⟩
    rcases h a with z | z
    · rw [z]; exact f2
    · exact z
theorem Rel.more {l : List Addr} (R : Rel K B G δ σ H) (hg : ∀ a ∈ l, G a = none) (hc : ∀ (i : Nat) (c : Cell) (a : Addr), δ[i]? = some c → a ∈ c.fp → a ∉ l) (hn : ∀ a ∈ l, ∀ o, H a = some o → notTE o) : Rel K (bov B H l) G δ σ H := by
  refine ⟨R.len, R.sg, fun a o e => ?_, fun a => ?_, R.ok, R.ap, fun i c a e m => ?_, ⟨R.tt.t, ⟨fun a o e => by
    unfold bov at e
    split at e
    · rename_i hm; exact hn a hm o e
    · exact R.tt.n.b a o e, R.tt.n.g⟩⟩⟩
  · unfold bov at e
    split at e
    · exact e
    · exact R.sb _ _ e
  · unfold bov
    split
    · rename_i hm; exact .inl (hg a hm)
    · exact R.dj a
  · obtain ⟨f1, f2⟩ := R.fr i c a e m
    refine ⟨f1, ?_⟩
    unfold bov
    rw [if_neg (hc i c a e m)]; exact f2
end

abbrev DSpM := List Cell → (Cell → List Cell → Prop) → Prop
def liftM (K : PySem.W.Frag) (sp : DSpM) : Sp := fun vs H Q _ => ∃ B G cs R, Rel K B G cs (vs.map some) H ∧ sp cs R ∧ ∀ v H' G' c cs', R c cs' → Same G G' → Rel K (bov B H' c.fp) G' cs' (vs.map some) H' → (∀ a ∈ c.fp, B a = none) → CellOk K G' H' c (some v) → Q v H'
def wCallM (m : List Bool) (sp : DSpM) (w : DA) : DM := fun δ R => w δ fun os δ1 => lkM m os δ1 fun os' δ2 => (slotsOf os').Nodup ∧ sp (os'.map (cellOf δ2)) fun c cs => R c (putBack os' cs δ2)
def askM (sp : DSpM) (cs : List Cell) (R : Cell → List Cell → Prop) (_u : Stop R) : Prop := sp cs R
omit [Tb] in
@[simp ↓] theorem wCallM_ap (m : List Bool) (sp : DSpM) (w : DA) (δ : DS) (R : Cell → DS → Prop) : wCallM m sp w δ R = (w δ fun os δ1 => lkM m os δ1 fun os' δ2 => (slotsOf os').Nodup ∧ askM sp (os'.map (cellOf δ2)) (fun c cs => R c (putBack os' cs δ2)) .mk) := rfl
section
variable {X : Cx} {k : Nat} {f : Addr} {fd : FuncData} {ps : List Str} {x : Str} {p pos : Pos} {e : Expr} {es : List Expr}
theorem jm_call {m : List Bool} {sp : DSpM} {w : DA} (F : FnG X.prog X.w X.K X.mg X.base CX0 k f fd ps (liftM X.K sp)) (hr : RoomG k X.A) (hg : Gl X x) (hm : X.mg x = some (.ref f)) (hk : PySem.W.keepIn X.K (.ref f) = true) (hb : Binds X.K fd ps [])
    (ha : JA X (e :: es) w) (hdb : (x == ("__debug__" : Str)) = false := by decide) (he : starEach (e :: es) X.env = (false, eval e X.env) :: starEach es X.env := by rfl) (hpl : (backTo pos (starEach es X.env)).any (·.1) = false := by rfl) : JM X (.Call (.Name x p) (e :: es) [] pos) (wCallM m sp w) :=
  pe_le (pe_callG (E := E0) F hr hg hm hk hb pass0 ha hdb he hpl) fun pins s σ H Q I ⟨B, G, δ, R, rel, hw, k⟩ => ⟨B, G, δ, _, rel, hw, fun vs H1 G1 os δ1 r1 s1 rel1 ok1 => by
    obtain ⟨G2, δ2, os', ⟨nd, q⟩, s2, rel2, ok2⟩ := lkM_ok rel1 ok1 r1
    rw [List.append_nil]
    refine ⟨_, G2, _, _, call_rel rel2 ok2 nd, q, fun v H' G' c cs r s3 rel3 hB okc => ?_⟩
    have low : Rel X.K (hold B H1 δ2 (slotsOf os')) G' cs (vs.map some) H' := rel3.less fun a => by
      unfold bov
      split
      · rename_i hm; exact .inr (hB a hm)
      · exact .inl rfl
    have rel4 := call_back rel2 ok2 nd s3 low
    have hlen : os'.length = cs.length := by rw [← opds_len ok2, ← low.len, List.length_map]
    have tr : ∀ a ∈ c.fp, ∃ o, H' a = some o := fun a m => cell_tr okc m
    have hB0 : ∀ a ∈ c.fp, B a = none := fun a m => by
      have z := hB a m
      by_cases h : ∃ i c, δ2[i]? = some c ∧ a ∈ c.fp ∧ i ∉ slotsOf os'
      · obtain ⟨i, c', h1, h2, _⟩ := h
        exact (rel2.fr i c' a h1 h2).2
      · rw [hold_out h] at z; exact z
    have hG : ∀ a ∈ c.fp, G' a = none := fun a m => by
      rcases rel3.dj a with z | z
      · exact z
      · unfold bov at z
        rw [if_pos m] at z
        obtain ⟨o, eo⟩ := tr a m
        rw [eo] at z; cases z
    refine k v H' G' c _ r (s1.trans (s2.trans s3)) (rel4.more hG (fun i c' a e m ma => ?_) fun a m => cell_te okc m) hB0 okc
    rcases putBack_at hlen nd e with ⟨h1, h2⟩ | ⟨j, h1, h2⟩
    · have z := hB a ma
      rw [hold_in ⟨i, c', h2, m, h1⟩] at z
      obtain ⟨o, eo⟩ := rel2.tr h2 m
      rw [eo] at z; cases z
    · obtain ⟨_, f2⟩ := rel3.fr j c' a h2 m
      unfold bov at f2
      rw [if_pos ma] at f2
      obtain ⟨o, eo⟩ := tr a ma
      rw [eo] at f2; cases f2⟩
end

def spDeck : DSpM := fun cs R => ∃ a ns, cs = [.scr a ns] ∧ ∀ p b c, R (.dk p b c) [.scr a ns]
/-- script[:63] -/
def wCut (i : Nat) : DE := fun δ R => ∃ a ns, δ[i]? = some (.scr a ns) ∧ R (.d (.list ((ns.take 63).map PyData.int))) δ
omit [Tb] in
@[simp ↓] theorem wCut_ap (i : Nat) (δ : DS) (R : Opd → DS → Prop) : wCut i δ R = (∃ a ns, δ[i]? = some (.scr a ns) ∧ R (.d (.list ((ns.take 63).map PyData.int))) δ) := rfl
theorem cutV_take (xs : List V) (n : Nat) : cutV xs none (some (n : Int)) = xs.take n := by
  unfold cutV
  rw [HT.sIx_none, HT.sIx_nat]
  simp only [List.drop_zero, Nat.sub_zero]
  by_cases h : n ≤ xs.length
  · rw [Nat.min_eq_left h]
  · rw [Nat.min_eq_right (by omega), List.take_of_length_le (by omega), List.take_of_length_le (by omega)]
theorem je_cut {X : Cx} {i : Nat} {x : Str} {px p1 p2 pos : Pos} {k1} (h : PE X (.Name x px) (tVar i)) : JE X (.Subscript (.Name x px) (.Slice none (some (.Constant (.int 63) k1 p1)) none p2) pos) (wCut i) :=
  pe_le (pe_slice sl_list h po_none (po_some pe_int)) fun pins s σ H Q I ⟨B, G, δ, R, rel, ⟨a, ns, hδ, hw⟩, k⟩ => by
    obtain ⟨o, hσ, rfl, hq⟩ := rel.at hδ
    refine ⟨.ref a, hσ, 63, rfl, a, ns.map V.int, rfl, rel.sg.seq hq, fun p np => ?_⟩
    obtain ⟨rel3, s3⟩ := rel.laid (o := .lst (cutV (ns.map V.int) none (some 63))) np
    refine k _ _ _ _ _ hw s3 rel3 (Dn.lst upd_same ?_)
    rw [show (63 : Int) = ((63 : Nat) : Int) from rfl, cutV_take, ← List.map_take]
    exact DnL.ints _
def wDk1 : DTS := wSet 1 (mL (wComp (iSeq (wCut 0)) (gN 2) tT (wFn pAbs (wCons (wVar 2) wNil)) [2]))
def wDk2 : DMs := msCons (mL (wComp (iSeq (wVar 1)) (gN 2) (wB (wOp pGe (wVar 2) (wOp pPow (wC (.int 10)) (wC (.int 18))))) (wVar 2) [2]))
  (msCons (mL (wOpL pAddL (wVar 1) (wOfL (wLst (wCons (wOp pAdd (wC (.int 11228)) (wFn pLen (wCons (wVar 1) wNil))) wNil))))) (msCons (mE (wC (.int 0))) msNil))
theorem comp_abs {δ : DS} {R : List PyData → DS → Prop} {d0 d1 : Cell} (hd : δ = [d0, d1, .em]) (k : ∀ ms : List Int, ms.length ≤ 63 → R (ms.map PyData.int) δ) (ns : List Int) (hn : ns.length ≤ 63) :
    compIt (gN 2) tT (wFn pAbs (wCons (wVar 2) wNil)) [2] (ns.map PyData.int) [] δ R := by
  refine com_inv (u := .mk) (fun xs acc δ' => δ' = δ ∧ ∃ ns ms : List Int, xs = ns.map PyData.int ∧ acc = ms.map PyData.int ∧ ms.length + ns.length ≤ 63) ⟨rfl, ns, [], rfl, rfl, by simpa using hn⟩ ?_ ?_
  · rintro acc δ' ⟨rfl, ns, ms, h1, rfl, h3⟩
    exact k ms (by omega)
  · rintro x xs acc δ' ⟨rfl, ns, ms, h1, rfl, h3⟩ K ih
    cases ns with
    | nil => cases h1
    | cons n ns =>
      simp only [List.map_cons, List.cons.injEq] at h1
      obtain ⟨rfl, rfl⟩ := h1
      subst hd
      simp
      exact ih _ _ ⟨rfl, ns, ms ++ [if n < 0 then -n else n], rfl, by simp, by simp at h3 ⊢; omega⟩
theorem comp_ge {δ : DS} {R : List PyData → DS → Prop} {d0 d1 : Cell} (hd : δ = [d0, d1, .em]) (k : ∀ ms : List Int, (∀ x ∈ ms, 0 ≤ x) → R (ms.map PyData.int) δ) (ns : List Int) :
    compIt (gN 2) (wB (wOp pGe (wVar 2) (wOp pPow (wC (.int 10)) (wC (.int 18))))) (wVar 2) [2] (ns.map PyData.int) [] δ R := by
  refine com_inv (u := .mk) (fun xs acc δ' => δ' = δ ∧ ∃ ns ms : List Int, xs = ns.map PyData.int ∧ acc = ms.map PyData.int ∧ ∀ x ∈ ms, 0 ≤ x) ⟨rfl, ns, [], rfl, rfl, by simp⟩ ?_ ?_
  · rintro acc δ' ⟨rfl, ns, ms, h1, rfl, h3⟩
    exact k ms h3
  · rintro x xs acc δ' ⟨rfl, ns, ms, h1, rfl, h3⟩ K ih
    cases ns with
    | nil => cases h1
    | cons n ns =>
      simp only [List.map_cons, List.cons.injEq] at h1
      obtain ⟨rfl, rfl⟩ := h1
      subst hd
      simp [CPow]
      split
      · exact ih _ _ ⟨rfl, ns, ms ++ [n], rfl, by simp, fun x hx => by
          rcases List.mem_append.mp hx with q | q
          · exact h3 x q
          · rw [List.mem_singleton.mp q]; omega⟩
      · exact ih _ _ ⟨rfl, ns, ms, rfl, rfl, h3⟩
theorem ok_deck {P : Program} {w : World} {K : PySem.W.Frag} {mg : Str → Option Value} {base : Heap} {x qual : Str} {st : Stmt} {f : Addr} {fd : FuncData} {N ps : List Str} {k : Nat} {st1 : Stmt} {es : List Expr} {p1 p2 : Pos} (F : Fun K x qual st f fd) (S : FnScope N ps (defScope st)) (hN : N.length = 3) (hp : ps.length = 1)
    (hb : defBody st = [st1, .Return (some (.List es p1)) p2])
    (h1 : ∀ (cdv : Value) (A : Around) (outer : List Env) (s : Shared) (H : Hp) (E : XK), RoomG k (A.deeper (envOfC qual (defScope st) s.heap.objs.size f cdv)) → JS (cxOf CX0 P w K mg base N qual (defScope st) f cdv A outer s H E).nox st1 wDk1)
    (h2 : ∀ (cdv : Value) (A : Around) (outer : List Env) (s : Shared) (H : Hp) (E : XK), RoomG k (A.deeper (envOfC qual (defScope st) s.heap.objs.size f cdv)) → JMs (cxOf CX0 P w K mg base N qual (defScope st) f cdv A outer s H E).nox es wDk2) : FnG P w K mg base CX0 (k + 1) f fd ps (liftM K spDeck) := by
  obtain ⟨oc, od, kV, doc, pm, an, cdv, ct, osl, rfl, lk', hcd⟩ := F.ex
  refine fnG_of lk' hcd S (fun vs H Q E ⟨B, G, cs, R, rel, ⟨a, ns, e, _⟩, _⟩ => by have := rel.len; subst e; simp at this; omega) fun A outer s H vs Q E hr ⟨B, G, cs, R, rel, ⟨a, ns, e, hR⟩, kk⟩ => ?_
  subst e
  rw [hb]
  refine ⟨_, (pss_cons (h1 cdv A outer s H E hr) (pss_one (ps_ret (pe_lst (h2 cdv A outer s H E hr))))).nox, ?_⟩
  have e0 : start0 N.length [Cell.scr a ns] = [.scr a ns, .em, .em] := by rw [hN]; rfl
  refine ⟨B, G, [.scr a ns, .em, .em], { nx := fun δ => ∃ q xs, δ = [.scr a ns, .ol q (xs.map PyData.int), .em] ∧ (xs : List Int).length ≤ 63, rt := fun _ _ => False }, e0 ▸ rel_start rel, ?_, ?_⟩
  · unfold wDk1
    simp
    refine ⟨a, ns, ⟨rfl, rfl⟩, ?_⟩
    rw [← List.map_take]
    exact comp_abs rfl (fun ms hm q => ⟨q, ms, by simp [hm]⟩) _ (by rw [List.length_take]; omega)
  · refine ⟨?_, fun _ _ _ _ _ _ h => h.elim, fun _ _ _ _ h => h.elim, fun _ _ _ _ h => h.elim⟩
    rintro σ1 H1 G1 δ1 ⟨q, xs, rfl, hx⟩ s1 rel1
    refine ⟨B, G1, _, fun cs δ => ∃ (q1 q2 : Addr) (ms ys : List Int) (d1 : Cell), cs = [.ol q1 (ms.map PyData.int), .ol q2 (ys.map PyData.int), .d (.int 0)] ∧ δ = [.scr a ns, d1, .em] ∧ (∀ x ∈ ms, (0 : Int) ≤ x) ∧ ys ≠ [], rel1, ?_, ?_⟩
    · unfold wDk2
      simp
      refine comp_ge rfl (fun ms hm q1 => ?_) _
      simp
      refine ⟨by omega, fun q2 => ⟨q1, q2, ms, xs ++ [11228 + (xs.length : Int)], ⟨⟨rfl, rfl⟩, rfl, by simp⟩, hm, by simp⟩⟩
    · rintro vs2 H2 G2 cs δ2 ⟨b, c, ms, ys, d1, rfl, rfl, hm, hy⟩ s2 rel2 hB2 ok2
      cases ok2 with
      | cons o1 n1 t1 =>
        cases t1 with
        | cons o2 n2 t2 =>
          cases t2 with
          | cons o3 n3 t3 =>
            cases t3
            obtain ⟨e1, w1, hb, t1⟩ := o1
            obtain ⟨e2, w2, hc, t2⟩ := o2
            obtain ⟨v3, e3, t3⟩ := o3
            cases e1
            cases e2
            cases e3
            obtain rfl := t1.toInts
            obtain rfl := t2.toInts
            obtain rfl := dn_int t3
            refine ⟨by show 3 ≤ sizeLine; rw [sizeLine_eq]; omega, fun p np => ?_⟩
            have bc : b ≠ c := fun e => n1 b (by simp [Cell.fp]) (by simp [fps, Cell.fp, e])
            have pb : p ≠ b := fun e => by rw [e, hb] at np; cases np
            have pc : p ≠ c := fun e => by rw [e, hc] at np; cases np
            have rel3 := rel_end rel (rel2.growB (o := .lst [.ref b, .ref c, .int 0]) np |>.less (B0 := B) fun a => ?_) (s1.trans s2) (show sameIo [Cell.scr a ns] _ from trivial)
            · have eb : (fps [Cell.ol b (ms.map PyData.int), Cell.ol c (ys.map PyData.int), Cell.d (.int 0)]) = [b, c] := rfl
              rw [eb] at rel2 hB2
              have hB : ∀ a ∈ [p, b, c], B a = none := fun a m => by
                rcases List.mem_cons.mp m with e | m
                · rw [e]
                  have z := rel2.freeB np
                  unfold bov at z
                  rw [if_neg (by simp [pb, pc])] at z; exact z
                · exact hB2 a m
              refine kk _ _ G2 (.dk p b c) _ (hR p b c) (s1.trans s2) (rel3.more (fun a m => ?_) ?_ fun a m => cell_te (K := K) (G := G2) (c := .dk p b c) (o := some (.ref p)) ⟨rfl, pb, pc, bc, 0, ms, ys, upd_same, by rw [upd_ne pb.symm]; exact hb, by rw [upd_ne pc.symm]; exact hc, hy, hm⟩ m) hB ⟨rfl, pb, pc, bc, 0, ms, ys, upd_same, by rw [upd_ne pb.symm]; exact hb, by rw [upd_ne pc.symm]; exact hc, hy, hm⟩
              · rcases List.mem_cons.mp m with e | m
                · rw [e]; exact rel2.freeG np
                · rcases rel2.dj a with z | z
                  · exact z
                  · unfold bov at z
                    rw [if_pos m] at z
                    have m' : a = b ∨ a = c := by simpa using m
                    rcases m' with rfl | rfl
                    · rw [hb] at z; cases z
                    · rw [hc] at z; cases z
              · intro i c' a' e m
                have : c' = .scr a ns := by
                  cases i with
                  | zero => simp [outC] at e; exact e.symm
                  | succ i => simp [outC] at e
                rw [this] at m; cases m
            · by_cases h : a = p
              · refine .inr ?_
                rw [h]
                have z := rel2.freeB np
                unfold bov at z
                split at z
                · rename_i hm2
                  rw [z] at np
                  have : H2 p = none := z
                  rcases (show p = b ∨ p = c by simpa [fps, Cell.fp] using hm2) with e | e
                  · exact absurd e pb
                  · exact absurd e pc
                · exact z
              · rw [upd_ne h]
                unfold bov
                split
                · rename_i hm2
                  exact .inr (hB2 a hm2)
                · exact .inl rfl
end DL
set_option Elab.async false
set_option linter.all false
set_option maxRecDepth 100000
set_option maxHeartbeats 4000000
namespace DL
open PySem PySem.Spec PyProof.Rows L2
variable [Tb]

section
variable {K : PySem.W.Frag} {B G H : Hp} {δ : DS} {σ : L2.St}
/-- an object of a slot's thing is changed -/
theorem Rel.put {i : Nat} {c c' : Cell} {p : Addr} {o : HO} {ov : Option V} (R : Rel K B G δ σ H) (h : δ[i]? = some c) (hσ : σ[i]? = some ov) (hp : p ∈ c.fp) (hf : c'.fp = c.fp) (ok : CellOk K G (upd H p o) c' ov) : Rel K B G (δ.set i c') σ (upd H p o) := by
  obtain ⟨ga, ba⟩ := R.fr i _ p h hp
  have hi : i < δ.length := (List.getElem?_eq_some_iff.mp h).1
  have get : ∀ {j : Nat} {x : Cell}, (δ.set i c')[j]? = some x → (j = i ∧ x = c') ∨ (j ≠ i ∧ δ[j]? = some x) := fun {j x} e => by
    by_cases hj : j = i
    · subst hj
      rw [List.getElem?_set_self hi] at e; cases e; exact .inl ⟨rfl, rfl⟩
    · rw [List.getElem?_set_ne (Ne.symm hj)] at e; exact .inr ⟨hj, e⟩
  refine ⟨by simp [R.len], fun b x q => ?_, fun b x q => ?_, R.dj, fun j x w e1 e2 => ?_, fun j k x y z e1 e2 m1 m2 => ?_, fun j x z e1 m => ?_, ⟨tabs_upd R.tt.t (cell_te (R.ok i c _ h hσ) hp), R.tt.n⟩⟩
  · rw [upd_ne (fun z => by rw [z, ga] at q; cases q)]; exact R.sg _ _ q
  · rw [upd_ne (fun z => by rw [z, ba] at q; cases q)]; exact R.sb _ _ q
  · rcases get e1 with ⟨rfl, rfl⟩ | ⟨hj, e1⟩
    · rw [hσ] at e2; cases e2; exact ok
    · refine (R.ok j x w e1 e2).stay (Same.refl _) fun b hb => upd_ne fun q => ?_
      rw [q] at hb
      exact hj (R.ap j i x _ p e1 h hb hp)
  · rcases get e1 with h1 | h1
    · obtain ⟨h1, e1'⟩ := h1
      rw [e1'] at m1
      rcases get e2 with ⟨h2, e3⟩ | ⟨h2, e3⟩
      · rw [h1, h2]
      · exact h1.trans (R.ap i k _ y z h e3 (by rw [← hf]; exact m1) m2)
    · rcases get e2 with ⟨h2, e3⟩ | ⟨h2, e3⟩
      · rw [e3] at m2
        exact (R.ap j i x _ z h1.2 h m1 (by rw [← hf]; exact m2)).trans h2.symm
      · exact R.ap j k x y z h1.2 e3 m1 m2
  · rcases get e1 with ⟨_, rfl⟩ | ⟨hj, e1⟩
    · exact R.fr i _ z h (by rw [← hf]; exact m)
    · exact R.fr j x z e1 m
/-- the deck is looked into, or closed -/
theorem Rel.swap {i : Nat} {c c' : Cell} {ov : Option V} (R : Rel K B G δ σ H) (h : δ[i]? = some c) (hσ : σ[i]? = some ov) (hf : c'.fp = c.fp) (ok : CellOk K G H c' ov) : Rel K B G (δ.set i c') σ H :=
  R.recell hσ ok fun a m => ⟨R.fr i c a h (by rw [← hf]; exact m), fun j x hj e m2 => hj (R.ap j i x c a e h m2 (by rw [← hf]; exact m))⟩
end

/-- deck[2] -/
def wK2 (i : Nat) : DE := fun δ R => ∃ a b c xs n ys, δ[i]? = some (.dx a b c xs n ys) ∧ R (.d (.int n)) δ
/-- deck[0][0] -/
def wK00 (i : Nat) : DE := fun δ R => ∃ a b c xs n ys x, δ[i]? = some (.dx a b c xs n ys) ∧ xs.head? = some x ∧ R (.d (.int x)) δ
/-- deck[0] != [] -/
def wKne (i : Nat) : DT := fun δ R => ∃ a b c xs n ys, δ[i]? = some (.dx a b c xs n ys) ∧ R (!xs.isEmpty) δ
/-- deck[1][e] -/
def wK1 (i : Nat) (w : DE) : DE := fun δ R => ∃ a b c xs n ys, δ[i]? = some (.dx a b c xs n ys) ∧ w δ fun o δ1 => use o δ1 fun d => ∃ j z, d = .int j ∧ δ1[i]? = some (.dx a b c xs n ys) ∧ atI ys j = some z ∧ R (.d (.int z)) δ1
/-- len(deck[1]) -/
def wKlen (i : Nat) : DE := fun δ R => ∃ a b c xs n ys, δ[i]? = some (.dx a b c xs n ys) ∧ R (.d (.int (ys.length : Nat))) δ
/-- deck[0][0] = e -/
def wPut00 (i : Nat) (w : DE) : DTS := fun E δ => w δ fun o δ1 => use o δ1 fun d => ∃ v a b c x xs n ys, d = .int v ∧ δ1[i]? = some (.dx a b c (x :: xs) n ys) ∧ E.nx (δ1.set i (.dx a b c (v :: xs) n ys))
/-- deck[0].pop(0) -/
def wPop0 (i : Nat) : DTS := fun E δ => ∃ a b c x xs n ys, δ[i]? = some (.dx a b c (x :: xs) n ys) ∧ E.nx (δ.set i (.dx a b c xs n ys))
/-- deck[2] = e -/
def wPut2 (i : Nat) (w : DE) : DTS := fun E δ => w δ fun o δ1 => use o δ1 fun d => ∃ v a b c xs n ys, d = .int v ∧ δ1[i]? = some (.dx a b c xs n ys) ∧ E.nx (δ1.set i (.dx a b c xs v ys))
def asX (c : Option Cell) (k : Addr → Addr → Addr → List Int → Int → List Int → Prop) : Prop := match c with
  | some (.dx a b c xs n ys) => k a b c xs n ys
  | _ => False
omit [Tb] in
@[simp ↓] theorem asX_x (a b c : Addr) (xs : List Int) (n : Int) (ys : List Int) (k : Addr → Addr → Addr → List Int → Int → List Int → Prop) : asX (some (.dx a b c xs n ys)) k = k a b c xs n ys := rfl
theorem ex_x (c : Option Cell) (k : Addr → Addr → Addr → List Int → Int → List Int → Prop) : (∃ p q r xs n ys, c = some (.dx p q r xs n ys) ∧ k p q r xs n ys) = asX c k := by
  cases c with
  | none => simp [asX]
  | some c =>
    cases c with
    | dx p q r xs n ys =>
      refine propext ⟨fun ⟨_, _, _, _, _, _, e, h⟩ => ?_, fun h => ⟨_, _, _, _, _, _, rfl, h⟩⟩
      cases e; exact h
    | _ => simp [asX]
def head1 (xs : List Int) (k : Int → List Int → Prop) : Prop := match xs with
  | x :: r => k x r
  | [] => False
omit [Tb] in
@[simp] theorem head1_c (x : Int) (xs : List Int) (k : Int → List Int → Prop) : head1 (x :: xs) k = k x xs := rfl
omit [Tb] in
@[simp ↓] theorem wK2_ap (i : Nat) (δ : DS) (R : Opd → DS → Prop) : wK2 i δ R = asX δ[i]? fun a b c xs n ys => R (.d (.int n)) δ := by
  rw [← ex_x]; rfl
omit [Tb] in
@[simp ↓] theorem wK00_ap (i : Nat) (δ : DS) (R : Opd → DS → Prop) : wK00 i δ R = asX δ[i]? fun a b c xs n ys => head1 xs fun x _ => R (.d (.int x)) δ := by
  rw [← ex_x]
  refine propext ⟨fun ⟨a, b, c, xs, n, ys, x, h, h2, q⟩ => ⟨a, b, c, xs, n, ys, h, ?_⟩, fun ⟨a, b, c, xs, n, ys, h, q⟩ => ?_⟩
  · cases xs with
    | nil => cases h2
    | cons y r => cases h2; exact q
  · cases xs with
    | nil => exact q.elim
    | cons y r => exact ⟨a, b, c, _, n, ys, y, h, rfl, q⟩
omit [Tb] in
@[simp ↓] theorem wKne_ap (i : Nat) (δ : DS) (R : Bool → DS → Prop) : wKne i δ R = asX δ[i]? fun a b c xs n ys => R (!xs.isEmpty) δ := by
  rw [← ex_x]; rfl
omit [Tb] in
@[simp ↓] theorem wK1_ap (i : Nat) (w : DE) (δ : DS) (R : Opd → DS → Prop) : wK1 i w δ R = asX δ[i]? fun a b c xs n ys => w δ fun o δ1 => use o δ1 fun d => asI d (fun j => δ1[i]? = some (.dx a b c xs n ys) ∧ onS (atI ys j) (fun z => R (.d (.int z)) δ1) .mk) .mk := by
  rw [← ex_x]; simp only [← ex_int, ← ex_some, ← exists_and_left]; rfl
omit [Tb] in
@[simp ↓] theorem wKlen_ap (i : Nat) (δ : DS) (R : Opd → DS → Prop) : wKlen i δ R = asX δ[i]? fun a b c xs n ys => R (.d (.int (ys.length : Nat))) δ := by
  rw [← ex_x]; rfl
omit [Tb] in
@[simp ↓] theorem wPut00_ap (i : Nat) (w : DE) (E : DEnds) (δ : DS) : wPut00 i w E δ = (w δ fun o δ1 => use o δ1 fun d => asI d (fun v => asX δ1[i]? fun a b c xs n ys => head1 xs fun _ r => E.nx (δ1.set i (.dx a b c (v :: r) n ys))) .mk) := by
  unfold wPut00
  simp only [← ex_x, ← ex_int]
  congr 1; funext o δ1; congr 1; funext d
  refine propext ⟨fun ⟨v, a, b, c, x, xs, n, ys, h0, h, q⟩ => ⟨v, h0, a, b, c, _, n, ys, h, q⟩, fun ⟨v, h0, a, b, c, xs, n, ys, h, q⟩ => ?_⟩
  cases xs with
  | nil => exact q.elim
  | cons y r => exact ⟨v, a, b, c, y, r, n, ys, h0, h, q⟩
omit [Tb] in
@[simp ↓] theorem wPop0_ap (i : Nat) (E : DEnds) (δ : DS) : wPop0 i E δ = asX δ[i]? fun a b c xs n ys => head1 xs fun _ r => E.nx (δ.set i (.dx a b c r n ys)) := by
  rw [← ex_x]
  refine propext ⟨fun ⟨a, b, c, x, xs, n, ys, h, q⟩ => ⟨a, b, c, _, n, ys, h, q⟩, fun ⟨a, b, c, xs, n, ys, h, q⟩ => ?_⟩
  cases xs with
  | nil => exact q.elim
  | cons y r => exact ⟨a, b, c, y, r, n, ys, h, q⟩
omit [Tb] in
@[simp ↓] theorem wPut2_ap (i : Nat) (w : DE) (E : DEnds) (δ : DS) : wPut2 i w E δ = (w δ fun o δ1 => use o δ1 fun d => asI d (fun v => asX δ1[i]? fun a b c xs n ys => E.nx (δ1.set i (.dx a b c xs v ys))) .mk) := by
  unfold wPut2
  simp only [← ex_x, ← ex_int]
  congr 1; funext o δ1; congr 1; funext d
  exact propext ⟨fun ⟨v, a, b, c, xs, n, ys, h0, h, q⟩ => ⟨v, h0, a, b, c, xs, n, ys, h, q⟩, fun ⟨v, h0, a, b, c, xs, n, ys, h, q⟩ => ⟨v, a, b, c, xs, n, ys, h0, h, q⟩⟩
section
variable {X : Cx} {i : Nat} {x : Str} {px pos p1 p2 p3 p4 p5 : Pos} {k1 k2 : Nat}
theorem atI_map {α β : Type} (f : α → β) (xs : List α) (j : Int) : atI (xs.map f) j = (atI xs j).map f := by
  unfold atI
  rw [List.length_map]
  cases ixN xs.length j with
  | none => rfl
  | some k => simp
theorem je_k2 (h : PE X (.Name x px) (tVar i)) : JE X (.Subscript (.Name x px) (.Constant (.int 2) k1 p1) pos) (wK2 i) :=
  pe_le (pe_ix ix_list h pe_int (fun _ _ => rfl)) fun pins s σ H Q I ⟨B, G, δ, R, rel, ⟨a, b, c, xs, n, ys, hδ, hw⟩, k⟩ => by
    obtain ⟨o, hσ, rfl, h1, h2, h3, e1, e2, e3⟩ := rel.at hδ
    exact ⟨.ref a, hσ, a, _, 2, .int n, rfl, rfl, SqL.of e1, rfl, k _ H G _ δ hw (Same.refl _) rel (Dn.int _)⟩
theorem je_k00 (h : PE X (.Name x px) (tVar i)) : JE X (.Subscript (.Subscript (.Name x px) (.Constant (.int 0) k1 p1) p2) (.Constant (.int 0) k2 p3) pos) (wK00 i) :=
  pe_le (pe_ix ix_list (pe_ix ix_list h pe_int (fun _ _ => rfl)) pe_int (fun _ _ => rfl)) fun pins s σ H Q I ⟨B, G, δ, R, rel, ⟨a, b, c, xs, n, ys, x, hδ, hx, hw⟩, k⟩ => by
    obtain ⟨o, hσ, rfl, h1, h2, h3, e1, e2, e3⟩ := rel.at hδ
    cases xs with
    | nil => cases hx
    | cons y xs =>
      cases hx
      exact ⟨.ref a, hσ, a, _, 0, .ref b, rfl, rfl, SqL.of e1, rfl, b, _, 0, .int x, rfl, rfl, SqL.of e2, by simp [atI, ixN], k _ H G _ δ hw (Same.refl _) rel (Dn.int _)⟩
theorem je_k1 {e : Expr} {w : DE} (h : PE X (.Name x px) (tVar i)) (he : JE X e w) (hs : PlainIx e) : JE X (.Subscript (.Subscript (.Name x px) (.Constant (.int 1) k1 p1) p2) e pos) (wK1 i w) :=
  pe_le (pe_ix ix_list (pe_ix ix_list h pe_int (fun _ _ => rfl)) he hs) fun pins s σ H Q I ⟨B, G, δ, R, rel, ⟨a, b, c, xs, n, ys, hδ, hw⟩, k⟩ => by
    obtain ⟨o, hσ, rfl, h1, h2, h3, e1, e2, e3⟩ := rel.at hδ
    refine ⟨.ref a, hσ, a, _, 1, .ref c, rfl, rfl, SqL.of e1, rfl, B, G, δ, _, rel, hw, fun v H1 G1 o δ1 r1 s1 rel1 ok1 => ?_⟩
    obtain ⟨d, ⟨j, z, rfl, hδ1, hz, q⟩, bd⟩ := use_ok rel1 ok1 r1
    obtain ⟨o', hσ', e', h1', h2', h3', e1', e2', e3'⟩ := rel1.at hδ1
    exact ⟨c, _, j, .int z, rfl, bor_int bd, SqL.of e3', by rw [atI_map, hz]; rfl, k _ H1 G1 _ δ1 q s1 rel1 (Dn.int _)⟩
theorem je_klen {xl : Str} {pl : Pos} (hg : Gl X xl) (hm : X.mg xl = none) (hv : bootBuiltins xl = some (.builtin "len")) (h : PE X (.Name x px) (tVar i)) (hn : xl ≠ "__name__" := by decide) (hdb : (xl == ("__debug__" : Str)) = false := by decide)
    (he : starEach [.Subscript (.Name x px) (.Constant (.int 1) k1 p1) p2] X.env = (false, eval (.Subscript (.Name x px) (.Constant (.int 1) k1 p1) p2) X.env) :: starEach [] X.env := by rfl) :
    JE X (.Call (.Name xl pl) [.Subscript (.Name x px) (.Constant (.int 1) k1 p1) p2] [] pos) (wKlen i) :=
  pe_le (pe_callB call_len hg hm hv (pa_cons (pe_ix ix_list h pe_int (fun _ _ => rfl)) pa_nil he) hn hdb he rfl) fun pins s σ H Q I ⟨B, G, δ, R, rel, ⟨a, b, c, xs, n, ys, hδ, hw⟩, k⟩ => by
    obtain ⟨o, hσ, rfl, h1, h2, h3, e1, e2, e3⟩ := rel.at hδ
    exact ⟨.ref a, hσ, a, _, 1, .ref c, rfl, rfl, SqL.of e1, rfl, _, _, rfl, .inl ⟨_, SqL.of e3, by simp⟩, k _ H G _ δ hw (Same.refl _) rel (Dn.int _)⟩
theorem dp_ints {K : PySem.W.Frag} {H : Hp} {a : Addr} {xs : List Int} (h : H a = some (.lst (xs.map V.int))) : Dp K H (.ref a) (.list (xs.map PyData.int)) :=
  .lst (SqL.of h) (by
    induction xs with
    | nil => exact .nil
    | cons x xs ih => exact .cons (.int _) (by
        clear h
        clear ih
        induction xs with
        | nil => exact .nil
        | cons x xs ih => exact .cons (.int _) ih))
theorem canLay_ints : ∀ xs : List Int, PyData.canLayAll0 (xs.map PyData.int) = true
  | [] => by simp [PyData.canLayAll0]
  | x :: xs => by simp [PyData.canLayAll0, PyData.canLay0, canLay_ints xs]
theorem depth_ints : ∀ xs : List Int, PyData.depthAll (xs.map PyData.int) = 0
  | [] => by simp [PyData.depthAll]
  | x :: xs => by simp [PyData.depthAll, PyData.depth, depth_ints xs]
theorem shaped_ints (xs : List Int) : SeqAt.shaped (.list (xs.map PyData.int)) = true := by
  simp [SeqAt.shaped, PyData.canLay0, PyData.depth, canLay_ints, depth_ints]
theorem eqv_nil (xs : List Int) : PyData.eqv (.list (xs.map PyData.int)) (.list []) = xs.isEmpty := by
  cases xs <;> simp [PyData.eqv, PyData.eqvAll]
theorem jt_kne (hu : X.A.units + 64 < cLine) (h : PE X (.Name x px) (tVar i)) (hm : behindInMarks .NotEq (.List [] p3) = false := by rfl) : JT X (.Compare (.Subscript (.Name x px) (.Constant (.int 0) k1 p1) p2) [.NotEq] [.List [] p3] pos) (wKne i) :=
  pt_le (pt_cmpR (op_neD hu) (pe_ix ix_list h pe_int (fun _ _ => rfl)) (pe_lst pa_nil) hm) fun pins s σ H Q I ⟨B, G, δ, R, rel, ⟨a, b, c, xs, n, ys, hδ, hw⟩, k⟩ => by
    obtain ⟨o, hσ, rfl, h1, h2, h3, e1, e2, e3⟩ := rel.at hδ
    refine ⟨.ref a, hσ, a, _, 0, .ref b, rfl, rfl, SqL.of e1, rfl, Nat.zero_le _, fun p np => ?_⟩
    have hb : (upd H p (.lst [])) b = some (.lst (xs.map V.int)) := by rw [upd_ne (ne_of_none e2 np)]; exact e2
    refine ⟨_, .list [], dp_ints hb, .lst (SqL.of upd_same) .nil, shaped_ints xs, by decide, _, rfl, ?_⟩
    rw [eqv_nil]
    exact k _ _ G δ hw (Same.refl _) (rel.grow np)
theorem js_put00 {e : Expr} {w : DE} {pt : Pos} (h : PE X (.Name x px) (tVar i)) (he : JE X e w) (hs : swapsWithSole [.Subscript (.Subscript (.Name x px) (.Constant (.int 0) k1 p1) p2) (.Constant (.int 0) k2 p3) pt] e pos.line X.env = pure false := by rfl) (hw : swappedStores [.Subscript (.Subscript (.Name x px) (.Constant (.int 0) k1 p1) p2) (.Constant (.int 0) k2 p3) pt] e X.env = pure none := by rfl) :
    JS X (.Assign [.Subscript (.Subscript (.Name x px) (.Constant (.int 0) k1 p1) p2) (.Constant (.int 0) k2 p3) pt] e pos) (wPut00 i w) :=
  ps_le (ps_asg he (pg_sub (pe_ix ix_list h pe_int (fun _ _ => rfl)) pe_int set_list) hs hw) fun pins s σ H D I ⟨B, G, δ, E, rel, hw, k⟩ => ⟨B, G, δ, _, rel, hw, fun v H1 G1 o δ1 r1 s1 rel1 ok1 => by
    obtain ⟨d, ⟨j, a, b, c, x, xs, n, ys, rfl, hδ1, q⟩, bd⟩ := use_ok rel1 ok1 r1
    obtain ⟨o', hσ, rfl, h1, h2, h3, e1, e2, e3⟩ := rel1.at hδ1
    obtain rfl := bor_int bd
    refine ⟨.ref a, hσ, a, _, 0, .ref b, rfl, rfl, SqL.of e1, rfl, b, _, 0, 0, rfl, rfl, e2, by simp [ixN], ?_⟩
    exact k.nx _ _ G1 _ q s1 (rel1.put hδ1 hσ (by simp [Cell.fp]) rfl ⟨rfl, h1, h2, h3, by rw [upd_ne h1]; exact e1, by rw [upd_same]; rfl, by rw [upd_ne h3.symm]; exact e3⟩)⟩
theorem js_put2 {e : Expr} {w : DE} {pt : Pos} (h : PE X (.Name x px) (tVar i)) (he : JE X e w) (hs : swapsWithSole [.Subscript (.Name x px) (.Constant (.int 2) k1 p1) pt] e pos.line X.env = pure false := by rfl) (hw : swappedStores [.Subscript (.Name x px) (.Constant (.int 2) k1 p1) pt] e X.env = pure none := by rfl) :
    JS X (.Assign [.Subscript (.Name x px) (.Constant (.int 2) k1 p1) pt] e pos) (wPut2 i w) :=
  ps_le (ps_asg he (pg_sub h pe_int set_list) hs hw) fun pins s σ H D I ⟨B, G, δ, E, rel, hw, k⟩ => ⟨B, G, δ, _, rel, hw, fun v H1 G1 o δ1 r1 s1 rel1 ok1 => by
    obtain ⟨d, ⟨j, a, b, c, xs, n, ys, rfl, hδ1, q⟩, bd⟩ := use_ok rel1 ok1 r1
    obtain ⟨o', hσ, rfl, h1, h2, h3, e1, e2, e3⟩ := rel1.at hδ1
    obtain rfl := bor_int bd
    refine ⟨.ref a, hσ, a, _, 2, 2, rfl, rfl, e1, by simp [ixN], ?_⟩
    exact k.nx _ _ G1 _ q s1 (rel1.put hδ1 hσ (by simp [Cell.fp]) rfl ⟨rfl, h1, h2, h3, by rw [upd_same]; rfl, by rw [upd_ne h1.symm]; exact e2, by rw [upd_ne h2.symm]; exact e3⟩)⟩
theorem js_pop0 {apos cpos : Pos} (h : PE X (.Name x px) (tVar i)) (hs : swapsWith (.Call (.Attribute (.Subscript (.Name x px) (.Constant (.int 0) k1 p1) p2) "pop" apos) [.Constant (.int 0) k2 p3] [] cpos) none pos.line X.env = pure false := by rfl)
    (hb : PE X (.Call (.Attribute (.Subscript (.Name x px) (.Constant (.int 0) k1 p1) p2) "pop" apos) [.Constant (.int 0) k2 p3] [] cpos) (tBM X.K "list" rPopAt (tOp (rIxL X.K) (tVar i) (tC (.int 0))) (tCons (tC (.int 0)) tNil))) :
    JS X (.Expr (.Call (.Attribute (.Subscript (.Name x px) (.Constant (.int 0) k1 p1) p2) "pop" apos) [.Constant (.int 0) k2 p3] [] cpos) pos) (wPop0 i) :=
  ps_le (ps_expr hb hs) fun pins s σ H D I ⟨B, G, δ, E, rel, ⟨a, b, c, x, xs, n, ys, hδ, hw⟩, k⟩ => by
    obtain ⟨o', hσ, rfl, h1, h2, h3, e1, e2, e3⟩ := rel.at hδ
    refine ⟨.ref a, hσ, a, _, 0, .ref b, rfl, rfl, SqL.of e1, rfl, .inl ⟨rfl, _, SqL.of e2⟩, b, _, 0, 0, .int x, rfl, rfl, e2, by decide, by decide, by simp [seqIndex?], rfl, ?_⟩
    exact k.nx _ _ G _ hw (Same.refl _) (rel.put hδ hσ (by simp [Cell.fp]) rfl ⟨rfl, h1, h2, h3, by rw [upd_ne h1]; exact e1, by rw [upd_same]; rfl, by rw [upd_ne h3.symm]; exact e3⟩)
end
end DL
set_option Elab.async false
set_option linter.all false
set_option maxRecDepth 100000
set_option maxHeartbeats 4000000
namespace DL
open PySem PySem.Spec PyProof.Rows L2
variable [Tb]

theorem ixN_nn {n : Nat} {j : Int} (h0 : 0 ≤ j) (h1 : j < n) : ixN n j = some j.toNat := by
  unfold ixN
  simp [h0, h1]
theorem atI_nn {α : Type} {xs : List α} {j : Int} (h0 : 0 ≤ j) (h1 : j < xs.length) : atI xs j = xs[j.toNat]? := by
  unfold atI; rw [ixN_nn h0 h1]; rfl
theorem atI_ex {α : Type} {xs : List α} {j : Int} (h0 : 0 ≤ j) (h1 : j < xs.length) : ∃ z, z ∈ xs ∧ atI xs j = some z := by
  rw [atI_nn h0 h1]
  have h : j.toNat < xs.length := by omega
  exact ⟨xs[j.toNat], List.getElem_mem h, List.getElem?_eq_getElem h⟩
omit [Tb] in
@[simp] theorem atI_ofNat {α : Type} (xs : List α) (j : Nat) : atI xs (j : Int) = xs[j]? := by
  by_cases h : j < xs.length
  · rw [atI_nn (by omega) (by omega)]; simp
  · unfold atI
    have : ixN xs.length (j : Int) = none := by unfold ixN; simp; omega
    rw [this, List.getElem?_eq_none (by omega)]; rfl

omit [Tb] in
@[simp] theorem atI_0 {α : Type} (xs : List α) : atI xs 0 = xs[0]? := by
  have := atI_ofNat xs 0; simpa using this
omit [Tb] in
@[simp] theorem atI_1 {α : Type} (xs : List α) : atI xs 1 = xs[1]? := by
  have := atI_ofNat xs 1; simpa using this
omit [Tb] in
@[simp] theorem atI_lit {α : Type} (xs : List α) (n : Nat) : atI xs (no_index (OfNat.ofNat n : Int)) = xs[n]? := atI_ofNat xs n
omit [Tb] in
@[simp] theorem atI_m1 {α : Type} (xs : List α) : atI xs (-1) = xs.getLast? := by
  rw [List.getLast?_eq_getElem?]
  cases xs with
  | nil => rfl
  | cons x xs =>
    unfold atI ixN
    have h1 : ¬ (0 : Int) ≤ -1 := by omega
    have h2 : -(((x :: xs).length : Nat) : Int) ≤ -1 := by simp; omega
    rw [if_neg h1, if_pos h2]
    have : (-1 + (((x :: xs).length : Nat) : Int)).toNat = (x :: xs).length - 1 := by simp; omega
    rw [this]; rfl
/-- a number that isn't negative and below -/
def spDraw : DSp := fun cs R => ∃ a b c m, cs = [.dk a b c, .d (.int m)] ∧ 0 < m ∧ m.natAbs.log2 < 9000 ∧ ∀ r, 0 ≤ r → r < m → R (.int r) [.dk a b c, .d (.int m)]
def wDrawA : DTS := wSeq (wSet 2 (mE (wK00 0))) (wSeq (wPut00 0 (wOp pDiv (wVar 2) (wVar 1))) (wSeq (wIf (wB (wOp pEq (wK00 0) (wC (.int 0)))) (wPop0 0) wNext) (wRet (wOp pMod (wFn pInt (wCons (wVar 2) wNil)) (wVar 1)))))
def wDrawB : DTS := wSeq (wPut2 0 (wOp pAdd (wK2 0) (wC (.int 1)))) (wSeq (wSet 3 (mE (wK1 0 (wOp pMod (wFn pInt (wCons (wK2 0) wNil)) (wKlen 0)))))
  (wSeq (wSet 4 (mE (wOp pMod (wFn pInt (wCons (wOp pAdd (wOp pMod (wFn pInt (wCons (wVar 3) wNil)) (wC (.int 4294966477))) (wOp pMul (wC (.int 1640531513)) (wK2 0))) wNil)) (wC (.int 4294966477)))))
  (wSeq (wSet 4 (mE (wOp pMod (wFn pInt (wCons (wOp pAdd (wOp pMul (wVar 4) (wVar 4)) (wOp pMul (wC (.int 86028121)) (wK2 0))) wNil)) (wC (.int 4294966427)))))
  (wRet (wOp pMod (wOp pDiv (wOp pMod (wFn pInt (wCons (wOp pMul (wVar 4) (wVar 4)) wNil)) (wC (.int 4294966373))) (wC (.int 1024))) (wVar 1))))))
def wDraw : DTS := wSeq (wIf (wKne 0) wDrawA wNext) wDrawB
theorem cm_small {i j : Int} (h0 : 0 ≤ i) (h1 : i < 4294967296) : CMul i j ∨ CMulW i j := .inl (.inl ⟨by omega, by omega⟩)
theorem rd_draw {a b c : Addr} {m : Int} {xs ys : List Int} {n : Int} {E : DEnds} (hm : 0 < m) (hl : m.natAbs.log2 < 9000) (hy : ys ≠ []) (hx : ∀ x ∈ xs, 0 ≤ x)
    (k : ∀ r xs n d2 d3 d4, 0 ≤ r → r < m → (∀ x ∈ xs, (0 : Int) ≤ x) → E.rt (.int r) [.dx a b c xs n ys, .d (.int m), d2, d3, d4]) : wDraw E [.dx a b c xs n ys, .d (.int m), .em, .em, .em] := by
  unfold wDraw
  cases xs with
  | nil =>
    have hpos : 0 < ys.length := List.length_pos_iff.mpr hy
    obtain ⟨z, _, hz⟩ := atI_ex (xs := ys) (j := (n + 1) % (ys.length : Int)) (Int.emod_nonneg _ (by omega)) (Int.emod_lt_of_pos _ (by omega))
    simp [wDrawB]
    rw [hz]
    simp
    refine ⟨hpos, cm_small (by omega) (by omega), cm_small (by omega) (by omega), cm_small (by omega) (by omega), cm_small (by omega) (by omega), by decide, hm, k _ _ _ _ _ _ (Int.emod_nonneg _ (by omega)) (Int.emod_lt_of_pos _ hm) (by simp)⟩
  | cons x xs =>
    have h0 : 0 ≤ x := hx x (by simp)
    simp [wDrawA]
    refine ⟨⟨hm, hl⟩, ?_⟩
    split
    · exact ⟨hm, k _ _ _ _ _ _ (Int.emod_nonneg _ (by omega)) (Int.emod_lt_of_pos _ hm) fun y hy => hx y (by simp [hy])⟩
    · refine ⟨hm, k _ _ _ _ _ _ (Int.emod_nonneg _ (by omega)) (Int.emod_lt_of_pos _ hm) fun y hy => ?_⟩
      rcases List.mem_cons.mp hy with e | hy
      · rw [e]; exact Int.ediv_nonneg h0 (by omega)
      · exact hx y (by simp [hy])
theorem ok_draw {P : Program} {w : World} {K : PySem.W.Frag} {mg : Str → Option Value} {base : Heap} {x qual : Str} {st : Stmt} {f : Addr} {fd : FuncData} {N ps : List Str} {k : Nat} (F : Fun K x qual st f fd) (S : FnScope N ps (defScope st)) (hN : N.length = 5) (hp : ps.length = 2)
    (body : ∀ (cdv : Value) (A : Around) (outer : List Env) (s : Shared) (H : Hp) (E : XK), RoomG k (A.deeper (envOfC qual (defScope st) s.heap.objs.size f cdv)) → JSs (cxOf CX0 P w K mg base N qual (defScope st) f cdv A outer s H E).nox (defBody st) wDraw) : FnG P w K mg base CX0 (k + 1) f fd ps (liftSp K spDraw) := by
  obtain ⟨oc, od, kV, doc, pm, an, cdv, ct, osl, rfl, lk', hcd⟩ := F.ex
  refine fnG_of lk' hcd S (fun vs H Q E ⟨B, G, cs, R, rel, ⟨a, b, c, m, e, _⟩, _⟩ => by have := rel.len; subst e; simp at this; omega) fun A outer s H vs Q E hr ⟨B, G, cs, R, rel, ⟨a, b, c, m, e, hm, hl, hR⟩, kk⟩ => ?_
  subst e
  have e0 : start0 N.length [Cell.dk a b c, .d (.int m)] = [.dk a b c, .d (.int m), .em, .em, .em] := by rw [hN]; rfl
  have rel0 : Rel K B G [.dk a b c, .d (.int m), .em, .em, .em] (L2.start N vs) H := e0 ▸ rel_start rel
  obtain ⟨o, hσ, rfl, h1, h2, h3, n, xs, ys, e1, e2, e3, hy, hx⟩ := rel0.at (i := 0) rfl
  have rel1 := rel0.swap (i := 0) (c' := .dx a b c xs n ys) rfl hσ rfl ⟨rfl, h1, h2, h3, e1, e2, e3⟩
  refine ⟨_, (body cdv A outer s H E hr).nox, B, G, _, { nx := fun _ => False, rt := fun z δ => ∃ r xs n d2 d3 d4, z = .int r ∧ 0 ≤ r ∧ r < m ∧ (∀ x ∈ xs, (0 : Int) ≤ x) ∧ δ = [.dx a b c xs n ys, .d (.int m), d2, d3, d4] }, rel1, ?_, ?_⟩
  · exact rd_draw hm hl hy hx fun r xs n d2 d3 d4 q0 q1 q2 => ⟨r, xs, n, d2, d3, d4, rfl, q0, q1, q2, rfl⟩
  · refine ⟨fun _ _ _ _ h => h.elim, ?_, fun _ _ _ _ h => h.elim, fun _ _ _ _ h => h.elim⟩
    rintro v σ' H' G' z δ' ⟨r, xs', n', d2, d3, d4, rfl, q0, q1, q2, rfl⟩ sG rel' dn
    obtain ⟨o', hσ', rfl, h1', h2', h3', e1', e2', e3'⟩ := rel'.at (i := 0) rfl
    have rel2 := rel'.swap (i := 0) (c' := .dk a b c) rfl hσ' rfl ⟨rfl, h1', h2', h3', n', xs', ys, e1', e2', e3', hy, q2⟩
    exact kk v H' G' (.int r) _ (hR r q0 q1) sG (rel_end rel rel2 sG ⟨rfl, trivial⟩) dn
end DL
set_option Elab.async false
set_option linter.all false
set_option maxRecDepth 100000
set_option maxHeartbeats 4000000
namespace DL
open PySem PySem.Spec PyProof.Rows L2
variable [Tb]

theorem roomG_caller {k : Nat} (h : Room k callerA) : RoomG k callerA := ⟨h, rfl⟩
/-- what is tracked when the law begins: the script, if it isn't one of the module's own things -/
noncomputable def scrH (K : PySem.W.Frag) (a : Addr) (vs : List Value) (ns : List Int) : Hp := by
  classical
  exact fun b => if b = a ∧ K.lookup a = none then some (.frz { cls := .type "list", data := .seq vs.toArray } (.lst (ns.map V.int))) else none
section
variable {K : PySem.W.Frag} {a b : Addr} {vs : List Value} {ns : List Int}
theorem scrH_some {u : HO} (h : scrH K a vs ns b = some u) : b = a ∧ K.lookup a = none ∧ u = .frz { cls := .type "list", data := .seq vs.toArray } (.lst (ns.map V.int)) := by
  unfold scrH at h
  split at h
  · rename_i c; exact ⟨c.1, c.2, (Option.some.inj h).symm⟩
  · cases h
theorem scrH_at (h : K.lookup a = none) : scrH K a vs ns a = some (.frz { cls := .type "list", data := .seq vs.toArray } (.lst (ns.map V.int))) := by
  unfold scrH; exact if_pos ⟨rfl, h⟩
theorem scrH_off (h : ¬ (b = a ∧ K.lookup a = none)) : scrH K a vs ns b = none := by
  unfold scrH; exact if_neg h
end
/-- how the modules stand when the law is called -/
structure Began (K : PySem.W.Frag) (mg : Str → Option Value) (h : Heap) : Prop where
  code : K.In h
  own : h.Ns mainGlobals mg
  given : ∃ mb, h.Ns builtinsNs mb ∧ ∀ x : Str, x ≠ "__name__" → mb x = bootBuiltins x
  free : h.NoLimit
/-- the script lies at a -/
structure Script (h : Heap) (a : Addr) (vs : List Value) (ns : List Int) : Prop where
  at_a : h.get? a = some { cls := .type "list", data := .seq vs.toArray }
  nums : IntsAre vs ns
  fits : ns.length ≤ sizeLine
/-- a function of one parameter is given, and keeps the promise over every base -/
abbrev OneArg (P : Program) (w : World) (K : PySem.W.Frag) (mg : Str → Option Value) (k : Nat) (fa : Addr) (x : Str) (sp : Sp) (fd : FuncData) : Prop :=
  (∀ (s : Shared) (u : Value), BindsTo s fd ⟨[u], []⟩ [(x, u)]) ∧ ∀ base : Heap, K.In base → base.Ns mainGlobals mg → FnG P w K mg base CX0 k fa fd [x] sp
/-- on this script the promise asks nothing, and tells True -/
abbrev TrueOn (K : PySem.W.Frag) (sp : Sp) (a : Addr) (ns : List Int) : Prop :=
  ∀ H : Hp, L2.Only H → SqL K H a (ns.map V.int) → sp [.ref a] H (fun v _ => v = .bl true) fun _ _ _ => False
theorem lawG {P : Program} {w : World} {K : PySem.W.Frag} {mg : Str → Option Value} {k : Nat} {fa a : Addr} {fd : FuncData} {x : Str} {sp : Sp} {s₁ : Shared} {vs : List Value} {ns : List Int}
    (B : Began K mg s₁.heap) (hg : s₁.gens = #[]) (S : Script s₁.heap a vs ns) (hr : Room k callerA) (F : OneArg P w K mg k fa x sp fd) (hsp : TrueOn K sp a ns) :
    codeAny (model P w) callerA (.call (.ref fa) ⟨[.ref a], []⟩) (fun r z => r = .ok (.ret (.bool true)) ∧ OldK s₁.heap z.heap ∧ z.os = s₁.os ∧ AllBare z.gens) s₁ := by
  obtain ⟨KX, hns, ⟨mb, hb, hbb⟩, hlim⟩ := B
  obtain ⟨ha, hi, hl⟩ := S
  obtain ⟨hbind, F⟩ := F
  have rv := vals_ints hi
  let T : Hp := scrH K a vs ns
  have only : L2.Only T := fun b => by
    cases q : T b with
    | none => exact .inl rfl
    | some u => obtain ⟨_, _, e⟩ := scrH_some q; exact .inr ⟨_, _, by rw [e]⟩
  have reads : SqL K T a (ns.map V.int) := by
    cases hk : K.lookup a with
    | none => exact .inl (.inr ⟨_, scrH_at hk⟩)
    | some o =>
      have e := KX a o hk
      rw [ha] at e
      cases e
      exact .inr ⟨_, vs.toArray, _, hk, rfl, rfl, rfl, by rw [List.size_toArray, hi.length]; exact hl, by simpa using rv⟩
  have hok : HOk P w T s₁.heap := fun b u q => by
    obtain ⟨rfl, _, rfl⟩ := scrH_some q
    exact ⟨ha, (List.length_map (as := ns) V.int).symm ▸ hl, vs, _, rv, ha⟩
  have free : ∀ {b : Addr} {o : Obj}, s₁.heap.get? b = some o → (∀ vs n, o.data ≠ .seq vs n) → T b = none := fun {b o} e d => by
    cases q : T b with
    | none => rfl
    | some u =>
      obtain ⟨rfl, _, _⟩ := scrH_some q
      rw [ha] at e
      cases e
      exact absurd rfl (d _ _)
  have names : ∀ {b : Addr} {m : Str → Option Value}, s₁.heap.Ns b m → (hidT s₁.heap T).Ns b m := fun {b m} ⟨o, es, ep, e, d, r⟩ =>
    ⟨o, es, ep, hidT_get e (free e fun _ _ z => by rw [d] at z; cases z), d, r⟩
  have kIn : K.In (hidT s₁.heap T) := fun b o e => hidT_get (KX b o e) (scrH_off fun ⟨h1, h2⟩ => by rw [h1, h2] at e; cases e)
  have md : Mod K mg (hidT s₁.heap T) := ⟨kIn, names hns, ⟨mb, names hb, hbb⟩, let ⟨mc, h1, h2⟩ := hlim; ⟨mc, names h1, h2⟩⟩
  have env : Env0 P w K mg (hidT s₁.heap T) callerA [] s₁ T :=
    { frames := rfl, mod := md, bs := fun b o e => of_hidT e, bsz := Nat.le_of_eq (hidT_size _ _), funs := trivial, frf := fun b hb => (nomatch (show b ∈ ([] : List Addr) from hb)), hok := hok, bare := .of_eq hg }
  have run := (F _ kIn (names hns)).run callerA [] s₁ T ⟨[.ref a], []⟩ [.ref a] [.ref a] _ _ (roomG_caller hr) env (hbind s₁ (.ref a)) (.cons rfl .nil) (hsp T only reads)
  have back : ∀ {H' : Hp} {z : Shared}, Un (frs []) [] T H' s₁.heap z.heap → HOk P w H' z.heap → OldK s₁.heap z.heap := fun un ok => OldK.of_keep fun b o e => by
    cases q : T b with
    | none => exact un.keep b o e q (List.not_mem_nil) (by simp)
    | some t =>
      obtain ⟨rfl, _, rfl⟩ := scrH_some q
      exact (ok b _ (un.frzs b _ _ q)).1.trans (ha.symm.trans e)
  refine codeAny_mono run ?_
  rintro (e | _ | _ | _ | u) z h <;> try exact False.elim h
  obtain ⟨v, H', os, bare, un, ok, rv', rfl⟩ := h
  cases (show u = Value.bool true from rv')
  exact ⟨rfl, back un ok, os, bare⟩
theorem walkG {l : PySem.W.OpenLaw} {n k : Nat} {q : Program} {loose : List Str} {XP : (Str → Option Value) → Heap → Prop} {YP : World → Heap → Prop} {d : DefRec} {K : Params → PySem.W.Frag} {sp : PySem.W.Frag → Sp} {x : Str}
    (most : l.most = some n) (fits : n ≤ sizeLine) (plain : d.params.defaults = []) (room : Room k callerA) (code : ∀ (w : World) (h : Heap), YP w h → (K w.params).In h)
    (law : ∀ (w : World) (mg : Str → Option Value) (fa : Addr) (h : Heap), (K w.params).In h → h.Ns mainGlobals mg → mg d.name = some (.ref fa) → ∃ fd : FuncData, OneArg l.prog w (K w.params) mg k fa x (sp (K w.params)) fd)
    (true' : ∀ (K : PySem.W.Frag) (H : Hp) (a : Addr) (ns : List Int), ns.length ≤ n → L2.Only H → SqL K H a (ns.map V.int) → sp K [.ref a] H (fun v _ => v = .bl true) fun _ _ _ => False) : PySem.W.WalkO q loose XP YP l.row.toRowW d [] (fun f vs => PySem.call f vs) :=
  Att.attach_call most plain fun w _ s₁ mg mb fa _ _ _ _ a vs ns G Y _ _ _ at_law at_a are few calm =>
    have KX := code w _ Y
    let ⟨_, F⟩ := law w mg fa _ KX G.T.g at_law
    lawG ⟨KX, G.T.g, ⟨mb, G.T.b, G.T.builtins⟩, G.T.nolimit⟩ calm ⟨at_a, are, Nat.le_trans few fits⟩ room F fun H only reads => true' _ H a ns few only reads
/-- the law over data: from the script, True -/
def spLaw : DSp := fun cs R => ∃ a ns, cs = [.scr a ns] ∧ ∀ cs', R (.bool true) cs'
/-- what is tracked at the start, but for tables -/
noncomputable def noTb (H : Hp) : Hp := by
  classical
  exact fun a => if ∃ ps, H a = some (.tbl ps) then none else H a
theorem noTb_some {H : Hp} {a : Addr} {o : HO} (h : noTb H a = some o) : H a = some o ∧ ∀ ps, o ≠ .tbl ps := by
  unfold noTb at h
  split at h
  · cases h
  · rename_i n
    exact ⟨h, fun ps e => n ⟨ps, by rw [h, e]⟩⟩
theorem noTb_at {H : Hp} {a : Addr} {o : HO} (h : H a = some o) (n : ∀ ps, o ≠ .tbl ps) : noTb H a = some o := by
  unfold noTb
  rw [if_neg fun ⟨ps, e⟩ => n ps (by rw [h] at e; cases e; rfl)]
  exact h
theorem noTb_seq {K : PySem.W.Frag} {H : Hp} {a : Addr} {xs : List V} (h : SqL K H a xs) : SqL K (noTb H) a xs := by
  rcases h with (h | ⟨o, h⟩) | h
  · exact .inl (.inl (noTb_at h fun _ z => (nomatch z)))
  · exact .inl (.inr ⟨o, noTb_at h fun _ z => (nomatch z)⟩)
  · exact .inr h
theorem law_start {K : PySem.W.Frag} {H : Hp} {a : Addr} {ns : List Int} (h : SqL K H a (ns.map V.int)) (hT : LamX.Tabs Tb.T H := by intro p hp; cases hp) : liftSp K spLaw [.ref a] H (fun v _ => v = .bl true) fun _ _ _ => False := by
  refine ⟨fun _ => none, noTb H, [.scr a ns], fun x _ => x = .bool true, ?_, ⟨a, ns, rfl, fun _ => rfl⟩, ?_⟩
  · refine ⟨rfl, fun a o e => (noTb_some e).1, fun a o e => (by cases e), fun a => .inr rfl, fun i c o e1 e2 => ?_, fun i j c c' a e1 e2 m1 m2 => ?_, fun i c a e m => ?_, ⟨hT, ⟨fun a o e => (by cases e), fun a o e => (noTb_some e).2⟩⟩⟩
    · cases i with
      | zero => simp at e1 e2; subst e1 e2; exact ⟨rfl, noTb_seq h⟩
      | succ i => simp at e1
    · cases i with
      | zero => simp at e1; subst e1; cases m1
      | succ i => simp at e1
    · cases i with
      | zero => simp at e; subst e; cases m
      | succ i => simp at e
  · rintro v H' G' x cs' rfl _ _ dn
    exact dn_bool dn
end DL
set_option Elab.async false
set_option linter.all false
set_option maxRecDepth 100000
set_option maxHeartbeats 4000000
namespace DL
open PySem PySem.Spec PyProof.Rows L2
variable [Tb]

section
variable {X : Cx} {x : Str} {pos : Pos} {e : Expr} {es : List Expr}
theorem jpv (i : Nat) (hN : X.N[i]? = some x := by rfl) (hv : Vis X.env.scope x := by first | exact .inl rfl | exact .inr (.inl rfl) | exact .inr (.inr rfl)) (hd : (x == ("__debug__" : Str)) = false := by decide) (hcd : (x == ("__classdict__" : Str)) = false := by decide) : PE X (.Name x pos) (tVar i) := pe_var hN hv hd hcd
theorem jv (i : Nat) (hN : X.N[i]? = some x := by rfl) (hv : Vis X.env.scope x := by first | exact .inl rfl | exact .inr (.inl rfl) | exact .inr (.inr rfl)) (hd : (x == ("__debug__" : Str)) = false := by decide) (hcd : (x == ("__classdict__" : Str)) = false := by decide) : JE X (.Name x pos) (wVar i) := je_var (pe_var hN hv hd hcd)
theorem jgn (i : Nat) (nd : X.N.Nodup) (hN : X.N[i]? = some x := by rfl) (hx : Loc X.env.scope x := by first | exact .inl rfl | exact .inr rfl) (hf : X.fn x = true ∨ X.env.scope.names.lookup x = some .local := by first | exact .inl rfl | exact .inr rfl) : JG X (.Name x pos) [i] (gN i) := jg_name nd hN hx hf
theorem jset (i : Nat) {w : DM} {pos' : Pos} (nd : X.N.Nodup) (he : JM X e w) (hi : X.N[i]? = some x := by rfl) (hx : Loc X.env.scope x := by first | exact .inl rfl | exact .inr rfl) (hs : swapsWith e (some (.Name x pos')) pos.line X.env = pure false := by rfl) (hf : X.fn x = true ∨ X.env.scope.names.lookup x = some .local := by first | exact .inl rfl | exact .inr rfl) :
    JS X (.Assign [.Name x pos'] e pos) (wSet i w) := js_set nd hi hx he hs hf
theorem jaug (i : Nat) {w : DE} {op : Operator} {p : P2} {pos' : Pos} (nd : X.N.Nodup) (he : JE X e w) (ho : OpD X (inplaceOp op) p) (hi : X.N[i]? = some x := by rfl) (hx : Loc X.env.scope x := by first | exact .inl rfl | exact .inr rfl) (hf : X.fn x = true ∨ X.env.scope.names.lookup x = some .local := by first | exact .inl rfl | exact .inr rfl) :
    JS X (.AugAssign (.Name x pos') op e pos) (wAug i p w) := js_aug nd hi hx he ho hf
theorem jpar {i j : Nat} {x y : Str} {a b : Expr} {w : DMs} {px py pt : Pos} {kt k2 pt2} (hc : X.calm = true) (hN : X.N.Nodup) (hi : X.N[i]? = some x) (hj : X.N[j]? = some y) (hij : i ≠ j) (ha : JMs X [a, b] w) (hx : X.env.scope.names.lookup x = some .local := by rfl) (hy : X.env.scope.names.lookup y = some .local := by rfl) 
    (hw : swappedStores [.Tuple [.Name x px, .Name y py] kt pt] (.Tuple [a, b] k2 pt2) X.env = pure (some [x, y]) := by rfl) (hs : swapsWithSole [.Tuple [.Name x px, .Name y py] kt pt] (.Tuple [a, b] k2 pt2) pos.line X.env = pure false := by rfl) :
    JS X (.Assign [.Tuple [.Name x px, .Name y py] kt pt] (.Tuple [a, b] k2 pt2) pos) (wPar2 i j w) := js_par2 hc hN hi hj hij hx hy ha hw hs
def pIAdd : P2 := fun x y R => match x, y with
  | .int i, .int j => R (.int (i + j))
  | .str a, .str b => a.length + b.length ≤ 1000000 ∧ R (.str (a ++ b))
  | _, _ => False
def pISub : P2 := ints2 fun i j R => R (.int (i - j))
def pIMul : P2 := ints2 fun i j R => CMul i j ∧ R (.int (i * j))
def pIDiv : P2 := ints2 fun i j R => CDiv i j ∧ R (.int (i / j))
def pIMod : P2 := ints2 fun i j R => 0 < j ∧ R (.int (i % j))
omit [Tb] in
@[simp] theorem pIAdd_ii (i j : Int) (R : PyData → Prop) : pIAdd (.int i) (.int j) R = R (.int (i + j)) := rfl
omit [Tb] in
@[simp] theorem pIAdd_ss (a b : Str) (R : PyData → Prop) : pIAdd (.str a) (.str b) R = (a.length + b.length ≤ 1000000 ∧ R (.str (a ++ b))) := rfl
omit [Tb] in
@[simp] theorem pISub_ii (i j : Int) (R : PyData → Prop) : pISub (.int i) (.int j) R = R (.int (i - j)) := rfl
omit [Tb] in
@[simp] theorem pIMul_ii (i j : Int) (R : PyData → Prop) : pIMul (.int i) (.int j) R = (CMul i j ∧ R (.int (i * j))) := rfl
omit [Tb] in
@[simp] theorem pIDiv_ii (i j : Int) (R : PyData → Prop) : pIDiv (.int i) (.int j) R = (CDiv i j ∧ R (.int (i / j))) := rfl
omit [Tb] in
@[simp] theorem pIMod_ii (i j : Int) (R : PyData → Prop) : pIMod (.int i) (.int j) R = (0 < j ∧ R (.int (i % j))) := rfl
theorem d_idiv : OpD X (inplaceOp .FloorDiv) pIDiv := opd_ints iop_fdiv fun i j R h => h
end
end DL
set_option Elab.async false
set_option linter.all false
set_option maxRecDepth 100000
set_option maxHeartbeats 4000000
namespace DL
open PySem PySem.Spec PyProof.Rows L2
variable [Tb]

variable {g : DTG} {t : DT} {e : DE} {vs : List Nat} {xs : List PyData} {δ : DS}
theorem com_map {α : Type} {R : List PyData → DS → Prop} {u : Stop R} (as : List α) (d : α → PyData) (hx : xs = as.map d) (f : α → Option PyData)
    (hs : ∀ a ∈ as, ∀ (acc : List PyData) (K : List PyData → DS → Prop), K (acc ++ (f a).toList) δ → g (d a) δ fun δ1 => t δ1 fun b δ2 => if b = true then e δ2 fun o δ3 => lk o δ3 fun y δ4 => K (acc ++ [y]) (wipeD δ4 vs) else K acc (wipeD δ2 vs)) (k : R (as.filterMap f) δ) : comC g t e vs xs [] δ R u := by
  subst hx
  refine com_inv (fun ys acc δ' => δ' = δ ∧ ∃ bs : List α, ys = bs.map d ∧ (∀ x ∈ bs, x ∈ as) ∧ acc ++ bs.filterMap f = as.filterMap f) ⟨rfl, as, rfl, fun _ h => h, rfl⟩ ?_ ?_
  · rintro acc δ' ⟨rfl, bs, hb, _, h⟩
    have : bs = [] := by cases bs with
      | nil => rfl
      | cons => cases hb
    subst this
    have h' : acc = as.filterMap f := by simpa using h
    rw [h']; exact k
  · rintro x ys acc δ' ⟨rfl, bs, hb, hm, h⟩ K hK
    cases bs with
    | nil => cases hb
    | cons a bs =>
      simp only [List.map_cons, List.cons.injEq] at hb
      obtain ⟨rfl, rfl⟩ := hb
      refine hs a (hm a (List.mem_cons_self ..)) acc K (hK _ _ ⟨rfl, bs, rfl, fun y hy => hm y (List.mem_cons_of_mem _ hy), ?_⟩)
      rw [← h, List.filterMap_cons]
      cases f a <;> simp
theorem cutD_take {α : Type} (xs : List α) (n : Nat) : cutD xs none (some (n : Int)) = xs.take n := by
  unfold cutD
  rw [HT.sIx_none, HT.sIx_nat]
  simp only [List.drop_zero, Nat.sub_zero]
  by_cases h : n ≤ xs.length
  · rw [Nat.min_eq_left h]
  · rw [Nat.min_eq_right (by omega), List.take_of_length_le (by omega), List.take_of_length_le (by omega)]
theorem for_map {α : Type} {b : DTS} {E : DEnds} {u : Stop E} (as : List α) (d : α → PyData) (hx : xs = as.map d) (P : List α → DS → Prop) (Q : DS → Prop) (Z : PyData → DS → Prop) (h : P as δ) (h0 : ∀ δ, P [] δ → E.nx δ) (hq : ∀ δ, Q δ → E.nx δ) (hz : ∀ x δ, Z x δ → E.rt x δ)
    (hs : ∀ a bs δ, P (a :: bs) δ → ∀ (K B : DS → Prop) (T : PyData → DS → Prop), (∀ δ', P bs δ' → K δ') → (∀ δ', Q δ' → B δ') → (∀ x δ', Z x δ' → T x δ') → g (d a) δ fun δ1 => b { nx := K, rt := T, bk := B, ct := K } δ1) : forC g b xs δ E u := by
  subst hx
  refine for_inv (fun ys δ' => ∃ bs : List α, ys = bs.map d ∧ P bs δ') Q Z ⟨as, rfl, h⟩ ?_ hq hz ?_
  · rintro δ ⟨bs, hb, p⟩
    cases bs with
    | nil => exact h0 δ p
    | cons => cases hb
  · rintro x ys δ ⟨bs, hb, p⟩ K B T hK hB hT
    cases bs with
    | nil => cases hb
    | cons a bs =>
      simp only [List.map_cons, List.cons.injEq] at hb
      obtain ⟨rfl, rfl⟩ := hb
      exact hs a bs δ p K B T (fun δ' p' => hK δ' ⟨bs, rfl, p'⟩) hB hT
/-- a loop without break and return -/
theorem for_plain {α : Type} {b : DTS} {E : DEnds} {u : Stop E} (as : List α) (d : α → PyData) (hx : xs = as.map d) (P : List α → DS → Prop) (h : P as δ) (h0 : ∀ δ, P [] δ → E.nx δ)
    (hs : ∀ a bs δ, P (a :: bs) δ → ∀ (K B : DS → Prop) (T : PyData → DS → Prop), (∀ δ', P bs δ' → K δ') → g (d a) δ fun δ1 => b { nx := K, rt := T, bk := B, ct := K } δ1) : forC g b xs δ E u :=
  for_map as d hx P (fun _ => False) (fun _ _ => False) h h0 (fun _ h => h.elim) (fun _ _ h => h.elim) fun a bs δ p K B T hK _ _ => hs a bs δ p K B T hK
theorem pairsD_zip {α β : Type} (d : α → PyData) (f : β → PyData) : ∀ (as : List α) (bs : List β), pairsD (as.map d) (bs.map f) = (as.zip bs).map fun p => .tuple [d p.1, f p.2]
  | [], _ => by simp [pairsD]
  | _ :: _, [] => by simp [pairsD]
  | a :: as, b :: bs => by simp [pairsD, pairsD_zip d f as bs]
theorem nums_map (lo : Int) (n : Nat) : nums lo n = (List.range n).map fun (i : Nat) => PyData.int (lo + (i : Int)) := rfl
theorem nums_0 (n : Nat) : nums 0 n = (List.range n).map fun (i : Nat) => PyData.int (i : Int) := by simp [nums]
theorem log_lt {m : Int} {k : Nat} (h0 : 0 < m) (h1 : m < 2 ^ k) : m.natAbs.log2 < k := by
  have : m.natAbs < 2 ^ k := by
    have e : (m.natAbs : Int) = m := Int.natAbs_of_nonneg (by omega)
    have h2 : ((m.natAbs : Nat) : Int) < ((2 ^ k : Nat) : Int) := by rw [e]; simpa using h1
    exact Int.ofNat_lt.mp h2
  exact (Nat.log2_lt (by omega)).mpr this
theorem ask_of {sp : DSp} {cs : List Cell} {K : PyData → List Cell → Prop} {u : Stop K} (h : sp cs K) : ask sp cs K u := h
theorem cm_l {i j : Int} (h : -(2 ^ 64) < i ∧ i < 2 ^ 64) : CMul i j ∨ CMulW i j := .inl (.inl h)
theorem cm_r {i j : Int} (h : -(2 ^ 64) < j ∧ j < 2 ^ 64) : CMul i j ∨ CMulW i j := .inl (.inr h)
/-- a draw -/
theorem ask_draw {a b c : Addr} {m : Int} {K : PyData → List Cell → Prop} {u : Stop K} (h0 : 0 < m) (h1 : m < 2 ^ 64) (k : ∀ r, 0 ≤ r → r < m → K (.int r) [.dk a b c, .d (.int m)]) : ask spDraw [.dk a b c, .d (.int m)] K u :=
  ⟨a, b, c, m, rfl, h0, Nat.lt_trans (log_lt h0 h1) (by decide), k⟩
/-- the deck is made -/
theorem ask_deck {a : Addr} {ns : List Int} {K : Cell → List Cell → Prop} {u : Stop K} (k : ∀ p q r, K (.dk p q r) [.scr a ns]) : askM spDeck [.scr a ns] K u := ⟨a, ns, rfl, k⟩
end DL
set_option Elab.async false
set_option linter.all false
set_option maxRecDepth 100000
set_option maxHeartbeats 4000000
namespace DL
open PySem PySem.Spec PyProof.Rows L2
variable [Tb]

/-- ints of less than B bits, sequences of at most L items, n deep -/
def Sml (B L : Nat) : Nat → PyData → Prop
  | _, .none => True
  | _, .bool _ => True
  | _, .int i => i.natAbs.log2 < B
  | n + 1, .list xs => xs.length ≤ L ∧ ∀ x ∈ xs, Sml B L n x
  | n + 1, .tuple xs => xs.length ≤ L ∧ ∀ x ∈ xs, Sml B L n x
  | _, _ => False
theorem all_of {P : PyData → Bool} {F : List PyData → Bool} (h0 : F [] = true) (h1 : ∀ x xs, F (x :: xs) = (P x && F xs)) : ∀ xs : List PyData, (∀ x ∈ xs, P x = true) → F xs = true
  | [], _ => h0
  | x :: xs, h => by rw [h1, h x (List.mem_cons_self ..), all_of h0 h1 xs fun y hy => h y (List.mem_cons_of_mem _ hy)]; rfl
theorem depthAll_le {n : Nat} : ∀ xs : List PyData, (∀ x ∈ xs, x.depth ≤ n) → PyData.depthAll xs ≤ n
  | [], _ => by simp [PyData.depthAll]
  | x :: xs, h => by
    simp only [PyData.depthAll]
    have h1 := h x (List.mem_cons_self ..)
    have h2 := depthAll_le xs fun y hy => h y (List.mem_cons_of_mem _ hy)
    omega
theorem shownAll_map : ∀ xs : List PyData, PyData.shownAll xs = xs.map PyData.shown
  | [] => by simp [PyData.shownAll]
  | x :: xs => by simp [PyData.shownAll, shownAll_map xs]
omit [Tb] in
@[simp] theorem sml_int (B L n : Nat) (i : Int) : Sml B L n (.int i) = (i.natAbs.log2 < B) := by cases n <;> rfl
omit [Tb] in
@[simp] theorem sml_none (B L n : Nat) : Sml B L n .none = True := by cases n <;> rfl
omit [Tb] in
@[simp] theorem sml_bool (B L n : Nat) (b : Bool) : Sml B L n (.bool b) = True := by cases n <;> rfl
omit [Tb] in
@[simp] theorem sml_list (B L n : Nat) (xs : List PyData) : Sml B L (n + 1) (.list xs) = (xs.length ≤ L ∧ ∀ x ∈ xs, Sml B L n x) := rfl
omit [Tb] in
@[simp] theorem sml_tuple (B L n : Nat) (xs : List PyData) : Sml B L (n + 1) (.tuple xs) = (xs.length ≤ L ∧ ∀ x ∈ xs, Sml B L n x) := rfl
end DL
set_option Elab.async false
set_option linter.all false
set_option maxRecDepth 100000
set_option maxHeartbeats 4000000
namespace DL
open PySem PySem.Spec PyProof.Rows L2
variable [Tb]

def wPar3 (i j k : Nat) (w : DMs) : DTS := fun E δ => w δ fun cs δ1 => ∃ c d e, cs = [c, d, e] ∧ E.nx (((δ1.set i c).set j d).set k e)
omit [Tb] in
@[simp ↓] theorem wPar3_ap (i j k : Nat) (w : DMs) (E : DEnds) (δ : DS) : wPar3 i j k w E δ = (w δ fun cs δ1 => match cs with
  | [c, d, e] => E.nx (((δ1.set i c).set j d).set k e)
  | _ => False) := by
  unfold wPar3
  congr 1; funext cs δ1
  match cs with
  | [] => simp
  | [c] => simp
  | [c, d] => simp
  | [c, d, e] => exact propext ⟨fun ⟨c', d', e', h0, h⟩ => by cases h0; exact h, fun h => ⟨c, d, e, rfl, h⟩⟩
  | c :: d :: e :: f :: r => simp
def wAsgG (w : DE) (g : DTG) : DTS := fun E δ => w δ fun o δ1 => lk o δ1 fun x δ2 => g x δ2 E.nx
omit [Tb] in
@[simp ↓] theorem wAsgG_ap (w : DE) (g : DTG) (E : DEnds) (δ : DS) : wAsgG w g E δ = (w δ fun o δ1 => lk o δ1 fun x δ2 => g x δ2 E.nx) := rfl
section
variable {X : Cx} {pos : Pos} {e : Expr}
theorem jpar3 {i j l : Nat} {x y z : Str} {a b c : Expr} {w : DMs} {px py pz pt : Pos} {kt k2 pt2} (hc : X.calm = true) (hN : X.N.Nodup) (hi : X.N[i]? = some x) (hj : X.N[j]? = some y) (hk : X.N[l]? = some z) (hij : i ≠ j) (hik : i ≠ l) (hjk : j ≠ l) (ha : JMs X [a, b, c] w) (hx : X.env.scope.names.lookup x = some .local := by rfl) (hy : X.env.scope.names.lookup y = some .local := by rfl) (hz : X.env.scope.names.lookup z = some .local := by rfl)
    (hw : swappedStores [.Tuple [.Name x px, .Name y py, .Name z pz] kt pt] (.Tuple [a, b, c] k2 pt2) X.env = pure (some [x, y, z]) := by rfl) (hs : swapsWithSole [.Tuple [.Name x px, .Name y py, .Name z pz] kt pt] (.Tuple [a, b, c] k2 pt2) pos.line X.env = pure false := by rfl) :
    JS X (.Assign [.Tuple [.Name x px, .Name y py, .Name z pz] kt pt] (.Tuple [a, b, c] k2 pt2) pos) (wPar3 i j l w) := ps_le (ps_par3 hc hN hi hj hk hij hik hjk hx hy hz ha hw hs) fun pins s σ H D I ⟨B, G, δ, E, rel, hw, k⟩ => ⟨B, G, δ, _, rel, hw, fun vs H1 G1 cs δ1 r1 s1 rel1 hB ok1 => by
  obtain ⟨c, d, f, rfl, q⟩ := r1
  cases ok1 with
  | cons h1 d1 t1 =>
    cases t1 with
    | cons h2 d2 t2 =>
      cases t2 with
      | cons h3 d3 t3 =>
        cases t3
        rename_i v u w
        refine ⟨v, u, w, rfl, ?_⟩
        have e : fps [c, d, f] = c.fp ++ (d.fp ++ (f.fp ++ [])) := by simp [fps]
        rw [e] at rel1
        have R2 := Rel.store (i := i) rel1 (fun a m => hB a (by simp [fps, m])) (fun a m => by have := d1 a m; simpa [fps] using this) h1
        have R3 := Rel.store (i := j) R2 (fun a m => hB a (by simp [fps, m])) (fun a m => by have := d2 a m; simpa [fps] using this) h2
        have R4 := Rel.store (i := l) R3 (fun a m => hB a (by simp [fps, m])) (fun a m z => nomatch z) h3
        rw [bov_nil] at R4
        exact k.nx _ H1 G1 _ q s1 R4⟩
theorem js_asgG {tg : Expr} {w : DE} {ts : List Nat} {g : DTG} (he : JE X e w) (hg : JG X tg ts g) (hs : swapsWithSole [tg] e pos.line X.env = pure false := by rfl) (hw : swappedStores [tg] e X.env = pure none := by rfl) (h1 : (assignEach [tg] X.env).map (·.2) = [assign tg X.env] := by rfl) : JS X (.Assign [tg] e pos) (wAsgG w g) :=
  ps_le (ps_asg he hg hs hw h1) fun pins s σ H D I ⟨B, G, δ, E, rel, hw, k⟩ => ⟨B, G, δ, _, rel, hw, fun v H1 G1 o δ1 r1 s1 rel1 ok1 => by
    obtain ⟨G2, δ2, x, q, s2, rel2, dn⟩ := lk_ok rel1 ok1 r1
    exact ⟨B, G2, δ2, x, _, rel2, dn, q, fun σ' H' G' δ' r' s' rel' _ => k.nx _ _ _ _ r' (s1.trans (s2.trans s')) rel'⟩⟩
end
end DL
set_option Elab.async false
set_option linter.all false
set_option maxRecDepth 100000
set_option maxHeartbeats 4000000
namespace DL
open PySem PySem.Spec PyProof.Rows L2
variable [Tb]

/-- W m: what holds ahead of a turn, m falling; D: what holds when the loop is left; Z: what is returned from within -/
theorem while_inv {c : DT} {b : DTS} {δ : DS} {E : DEnds} {u : Stop E} (W : Nat → DS → Prop) (D : DS → Prop) (Z : PyData → DS → Prop) (m0 : Nat) (h : W m0 δ) (hd : ∀ δ, D δ → E.nx δ) (hz : ∀ x δ, Z x δ → E.rt x δ)
    (hs : ∀ m δ, W m δ → ∀ (K N : DS → Prop) (T : PyData → DS → Prop), (∀ m' δ', m' < m → W m' δ' → K δ') → (∀ δ', D δ' → N δ') → (∀ x δ', Z x δ' → T x δ') → c δ fun k δ1 => if k = true then b { nx := K, rt := T, bk := N, ct := K } δ1 else N δ1) : whileC c b δ E u :=
  ⟨W, ⟨m0, h⟩, fun m δ w => hs m δ w _ _ _ (fun m' δ' hm w' => ⟨m', hm, w'⟩) hd hz⟩
theorem while_plain {c : DT} {b : DTS} {δ : DS} {E : DEnds} {u : Stop E} (W : Nat → DS → Prop) (D : DS → Prop) (m0 : Nat) (h : W m0 δ) (hd : ∀ δ, D δ → E.nx δ)
    (hs : ∀ m δ, W m δ → ∀ (K N : DS → Prop) (T : PyData → DS → Prop), (∀ m' δ', m' < m → W m' δ' → K δ') → (∀ δ', D δ' → N δ') → c δ fun k δ1 => if k = true then b { nx := K, rt := T, bk := N, ct := K } δ1 else N δ1) : whileC c b δ E u :=
  while_inv W D (fun _ _ => False) m0 h hd (fun _ _ h => h.elim) fun m δ w K N T hK hN _ => hs m δ w K N T hK hN
theorem numbered_zip {α : Type} (d : α → PyData) : ∀ (as : List α) (n : Nat), numbered n (as.map d) = (as.zipIdx n).map fun p => .tuple [.int (p.2 : Nat), d p.1]
  | [], n => by simp [numbered]
  | a :: as, n => by simp [numbered, numbered_zip d as (n + 1)]
end DL
set_option Elab.async false
set_option linter.all false
set_option maxRecDepth 100000
set_option maxHeartbeats 4000000
namespace DL
open PySem PySem.Spec PyProof.Rows L2
variable [Tb]
section
variable {l : Addr} {its : Array Value} {n : Nat} {dd : Option Addr} {sl : Array (Option Value)} {x : Int} {u : Tok}
theorem fits63 (lo : -(2 ^ 63) ≤ x) (hi : x < 2 ^ 63) : (decide (x < -(2 ^ 63)) || decide (x ≥ 2 ^ 63)) = false := by simp; omega
/-- the tuple itself is handed back: an empty one, or once -/
theorem mul_same (lo : -(2 ^ 63) ≤ x) (hi : x < 2 ^ 63) (same : (its.isEmpty || x == 1) = true) :
    Meets (Builtin.«tuple.__mul__» ⟨[.ref l, .int x u], []⟩) (fun _ R s => s.heap.get? l = some { cls := .type "tuple", dict := dd, data := .seq its n, slots := sl } ∧ R (.ok (.ret (Value.ref l))) s) := by
  refine .of_wp fun prog w A R => ?_
  rintro ⟨hp, gs, dr, tk, os⟩ ⟨at_l, h⟩
  have fit := fits63 lo hi
  have ix := AutoSeq1.idx_int
  wp_walk using wpAny_loadPart' at_l
  all_goals simp only [fit, same, Bool.false_eq_true, ↓reduceIte]
  wp_walk using wpAny_loadPart' at_l
  all_goals (try simp only [fit, same, Bool.false_eq_true, ↓reduceIte])
  all_goals (first | (wp_walk using wpAny_loadPart' at_l; exact ⟨_, rfl, h⟩) | exact ⟨_, rfl, h⟩)
/-- no times at all: a new empty tuple -/
theorem mul_none (lo : -(2 ^ 63) ≤ x) (le : x ≤ 0) (some' : its.isEmpty = false) :
    Meets (Builtin.«tuple.__mul__» ⟨[.ref l, .int x u], []⟩) (fun _ R s => s.heap.get? l = some { cls := .type "tuple", dict := dd, data := .seq its n, slots := sl } ∧
      R (.ok (.ret (Value.ref s.heap.objs.size))) { s with heap := s.heap.push { cls := Value.type "tuple", data := Data.seq #[] }, toks := s.toks }) := by
  refine .of_wp fun prog w A R => ?_
  rintro ⟨hp, gs, dr, tk, os⟩ ⟨at_l, h⟩
  have fit := fits63 lo (Int.lt_of_le_of_lt le (by decide))
  have once : (x == 1) = false := by simp; omega
  have ix := AutoSeq1.idx_int
  wp_walk using wpAny_loadPart' at_l
  all_goals simp only [fit, once, some', Bool.or_false, Bool.false_eq_true, ↓reduceIte]
  wp_walk using wpAny_loadPart' at_l
  all_goals (try simp only [once, some', decide_eq_true le, Bool.or_false, Bool.false_eq_true, ↓reduceIte])
  all_goals (first | (wp_walk using wpAny_loadPart' at_l; exact ⟨_, rfl, h⟩) | exact ⟨_, rfl, h⟩)
end
omit [Tb] in
/-- what `t * k` asks of a tuple's own multiplication, and no more -/
theorem mul_asks {X : Cx} {s : Shared} {l : Addr} {its : Array Value} {n : Nat} {dd : Option Addr} {sl : Array (Option Value)} {k : Int} {t : Tok} {G E : Value → Shared → Prop}
    (at_l : s.heap.get? l = some { cls := .type "tuple", dict := dd, data := .seq its n, slots := sl }) {W : Shared → Value} {f : Shared → Shared}
    (own : Meets (Builtin.«tuple.__mul__» ⟨[.ref l, .int k t], []⟩) (fun _ R s => s.heap.get? l = some { cls := .type "tuple", dict := dd, data := .seq its n, slots := sl } ∧ R (.ok (.ret (W s))) (f s))) (h : G (W s) (f s)) :
    wpAny (model X.prog X.w) X.A (binaryOp .Mult (.ref l) (.int k t)) G E s := by
  have ty : s.TypeIs (.ref l) "tuple" := ⟨_, at_l, rfl⟩
  have back := int_rmul_tuple k t l its n dd sl
  exact wpAny_binaryOp_repeat_ref (by decide) ty (typeIs_int · k t) noFill_tuple_mul F.fills_int_mul F.slot_int_rmul repeat_tuple F.slot_int_index.lookup
    (call_meets F.slot_int_rmul (typeIs_int s k t) F.entry_int_rmul (F.args_int_rmul_2 _ _) back ⟨at_l, rfl, ty, call_meets F.slot_tuple_mul ty F.entry_tuple_mul (F.args_tuple_mul_2 _ _) own ⟨at_l, h⟩⟩)
/-- t * k -/
def rRepA (K : PySem.W.Frag) : R2 := fun x y H Q => ∃ l k xs, x = .ref l ∧ y = .int k ∧ SqT K H l xs ∧ -1000 ≤ k ∧ k ≤ 1000 ∧ xs.length ≤ 1000 ∧ (xs = [] ∨ k = 1 → Q (.ref l) H) ∧ (¬ (xs = [] ∨ k = 1) → ∀ p, H p = none → Q (.ref p) (upd H p (.tup (List.replicate k.toNat xs).flatten)))
section
variable {X : Cx}
theorem op_repA : OpR X (binaryOp .Mult) (rRepA X.K) := by
  rintro pins s σ H _ _ _ _ Q I rx ry ⟨l, k, xs, rfl, rfl, isT, lo, hi, short, once, else'⟩
  by_cases c : 2 ≤ k ∧ xs ≠ []
  · exact op_repT pins s σ H _ _ _ _ Q I rx ry ⟨l, k, xs, rfl, rfl, isT, c.2, c.1, hi, short, else' (fun z => z.elim c.2 (by omega))⟩
  cases rx
  obtain ⟨tok, rfl⟩ := ry
  obtain ⟨its, vals, ⟨⟨_, dd, _, sl⟩, at_l, rfl, n, rfl⟩, _⟩ := I.tuple isT
  by_cases c' : xs = [] ∨ k = 1
  · refine mul_asks at_l (mul_same (by omega) (by omega) ?_) ⟨.ref l, _, I, rfl, once c'⟩
    rcases c' with rfl | rfl
    · cases vals; rfl
    · exact Bool.or_true _
  · have le : k ≤ 0 := by
      have : ¬ k = 1 := fun e => c' (.inr e)
      have : ¬ 2 ≤ k := fun e => c ⟨e, fun z => c' (.inl z)⟩
      omega
    have q := else' c'
    rw [Int.toNat_of_nonpos le] at q
    refine mul_asks at_l (mul_none (by omega) le ?_) ⟨.ref s.heap.objs.size, _, I.laid (t' := s.toks) (o := .tup []) (fun _ _ e => Heap.get?_push_of_some _ e) (Nat.le_refl _) ⟨by decide +kernel, _, .nil, IsTup.new _ _⟩, rfl, q _ (I.hok.fresh (Nat.le_refl _))⟩
    cases vals with
    | nil => exact absurd (.inl rfl) c'
    | cons => rfl
def pMulT : P2 := fun x y R => match x, y with
  | .int i, .int j => (CMul i j ∨ CMulW i j) ∧ R (.int (i * j))
  | .list xs, .int k => 0 ≤ k ∧ xs.length * k.toNat ≤ 1000000 ∧ k < 1000000 ∧ R (.list (List.replicate k.toNat xs).flatten)
  | .tuple xs, .int k => (-1000 ≤ k ∧ k ≤ 1000 ∧ xs.length ≤ 1000) ∧ R (.tuple (List.replicate k.toNat xs).flatten)
  | _, _ => False
theorem d_mulT : OpD X (binaryOp .Mult) pMulT := by
  intro pins s σ H x y v u Q I rx ry ⟨B, G, δ, σ', dx, dy, R, rel, bx, by', q, k⟩
  cases dx <;> cases dy <;> first | exact False.elim q | skip
  · exact d_mul pins s σ H x y v u Q I rx ry ⟨B, G, δ, σ', _, _, R, rel, bx, by', q, k⟩
  · exact d_mul pins s σ H x y v u Q I rx ry ⟨B, G, δ, σ', _, _, R, rel, bx, by', q, k⟩
  · rename_i ds i
    obtain ⟨a, vs, rfl, ha, ta⟩ := bor_tupS bx
    obtain ⟨⟨q0, q1, q2⟩, q3⟩ := q
    refine op_repA pins s σ H _ _ v u Q I rx ry ⟨a, i, vs, rfl, bor_int by', sqT_mono rel.sg (SqT.of ha), q0, q1, by rw [ta.len]; exact q2, fun hc => ?_, fun hc p np => ?_⟩
    · refine k _ H G _ q3 (Same.refl _) rel ?_
      rcases hc with rfl | rfl
      · have : ds = [] := by have := ta.len; simp at this; exact List.eq_nil_of_length_eq_zero this.symm
        subst this
        rw [List.flatten_replicate_nil] <;> exact Dn.tup ha ta
      · have e : (List.replicate (1 : Int).toNat ds).flatten = ds := by simp
        rw [e]; exact Dn.tup ha ta
    · obtain ⟨rel3, s3⟩ := rel.laid (o := .tup _) np
      exact k _ _ _ _ q3 s3 rel3 (Dn.tup upd_same ((ta.rep _).mono s3))
omit [Tb] in
@[simp ↓] theorem pMulT_ii (i : Int) (j : Int) (R : PyData → Prop) : pMulT (.int i) (.int j) R = ((CMul i j ∨ CMulW i j) ∧ R (.int (i * j))) := rfl
omit [Tb] in
@[simp ↓] theorem pMulT_li (xs : List PyData) (k : Int) (R : PyData → Prop) : pMulT (.list xs) (.int k) R = (0 ≤ k ∧ xs.length * k.toNat ≤ 1000000 ∧ k < 1000000 ∧ R (.list (List.replicate k.toNat xs).flatten)) := rfl
omit [Tb] in
@[simp ↓] theorem pMulT_ti (xs : List PyData) (k : Int) (R : PyData → Prop) : pMulT (.tuple xs) (.int k) R = ((-1000 ≤ k ∧ k ≤ 1000 ∧ xs.length ≤ 1000) ∧ R (.tuple (List.replicate k.toNat xs).flatten)) := rfl
end
end DL
set_option Elab.async false
set_option linter.all false
set_option maxRecDepth 100000
set_option maxHeartbeats 4000000
namespace DL
open PySem PySem.Spec PyProof.Rows L2
variable [Tb]
mutual
/-- a value reads as data, and where a dict is read it is empty and not the table of modules -/
def RdN (h : Heap) (v : Value) : PyData → Prop
  | .dict kvs => kvs = [] ∧ ∃ a o es n, v = .ref a ∧ a ≠ sysModules ∧ h.get? a = some o ∧ o.cls = .type "dict" ∧ o.data = .dict es n ∧ es.toList = []
  | .list xs => ∃ a o vs n, v = .ref a ∧ h.get? a = some o ∧ o.cls = .type "list" ∧ o.data = .seq vs n ∧ RdNs h vs.toList xs
  | .tuple xs => ∃ a o vs n, v = .ref a ∧ h.get? a = some o ∧ o.cls = .type "tuple" ∧ o.data = .seq vs n ∧ RdNs h vs.toList xs
  | d => Reads h v d []
def RdNs (h : Heap) (vs : List Value) : List PyData → Prop
  | [] => vs = []
  | d :: ds => ∃ v us, vs = v :: us ∧ RdN h v d ∧ RdNs h us ds
end
mutual
theorem RdN.reads {h : Heap} : ∀ (d : PyData) {v : Value}, RdN h v d → ∃ as, Reads h v d as
  | .none, _, r => ⟨_, r⟩
  | .bool _, _, r => ⟨_, r⟩
  | .int _, _, r => ⟨_, r⟩
  | .str _, _, r => ⟨_, r⟩
  | .list xs, _, ⟨_, _, _, _, e, h1, h2, h3, h4⟩ => (RdNs.reads xs h4).elim fun _ q => e ▸ ⟨_, Reads.list h1 h2 h3 q⟩
  | .tuple xs, _, ⟨_, _, _, _, e, h1, h2, h3, h4⟩ => (RdNs.reads xs h4).elim fun _ q => e ▸ ⟨_, Reads.tuple h1 h2 h3 q⟩
  | .dict _, _, ⟨z, _, _, _, _, e, _, h1, h2, h3, h4⟩ => e ▸ z ▸ ⟨_, Reads.dict (kvs := []) (as := []) (bs := []) h1 h2 h3 (by rw [h4]; exact ReadsAll.nil) (by rw [h4]; exact ReadsAll.nil)⟩
theorem RdNs.reads {h : Heap} : ∀ (ds : List PyData) {vs : List Value}, RdNs h vs ds → ∃ as, ReadsAll h vs ds as
  | [], _, e => e ▸ ⟨_, ReadsAll.nil⟩
  | d :: ds, _, ⟨_, _, e, a, b⟩ => (RdN.reads d a).elim fun _ p => (RdNs.reads ds b).elim fun _ q => e ▸ ⟨_, ReadsAll.cons p q⟩
end
section
variable {prog : Program} {w : World} {h₀ : Heap}
/-- what is told of a value that reads: somewhere below it, its repr is its text -/
def Tells (prog : Program) (w : World) (h₀ : Heap) (v : Value) (d : PyData) : Prop :=
  (∃ as, Reads h₀ v d as) ∧ (d.showable = true → d.shown.length ≤ sizeLine → ∃ bs, ReadAtMost h₀ d.depth bs ∧ ReprK prog w bs h₀ d.depth v d.shown)
def TellsAll (prog : Program) (w : World) (h₀ : Heap) (vs : List Value) (ds : List PyData) : Prop :=
  (∃ as, ReadsAll h₀ vs ds as) ∧ (PyData.showableAll ds = true → (∀ t ∈ PyData.shownAll ds, t.length ≤ sizeLine) → ∃ bs, ReadAtMost h₀ (PyData.depthAll ds) bs ∧ ReprAllK prog w bs h₀ (PyData.depthAll ds) vs (PyData.shownAll ds))
/-- .. and, for a thing of the heap, by its class's own method -/
def Shows (prog : Program) (w : World) (h₀ : Heap) (v : Value) (d : PyData) : Prop :=
  d.showable = true → d.shown.length ≤ sizeLine → ∃ a T idr, v = .ref a ∧ ShowsBy prog w h₀ a d T idr
theorem TellsAll.none : TellsAll prog w h₀ [] [] := ⟨⟨_, .nil⟩, fun _ _ => ⟨[], nofun, .nil⟩⟩
theorem TellsAll.more {v : Value} {d : PyData} {vs : List Value} {ds : List PyData} (a : Tells prog w h₀ v d) (b : TellsAll prog w h₀ vs ds) : TellsAll prog w h₀ (v :: vs) (d :: ds) := by
  obtain ⟨⟨as, ra⟩, ka⟩ := a
  obtain ⟨⟨bs, rb⟩, kb⟩ := b
  refine ⟨⟨_, .cons ra rb⟩, fun sh short => ?_⟩
  rw [PyData.showableAll, Bool.and_eq_true] at sh
  rw [PyData.shownAll] at short ⊢
  obtain ⟨cs, below_c, one⟩ := ka sh.1 (short _ List.mem_cons_self)
  obtain ⟨ds', below_d, rest⟩ := kb sh.2 fun t m => short t (List.mem_cons_of_mem _ m)
  rw [PyData.depthAll]
  exact ⟨cs ++ ds', (below_c.mono (Nat.le_max_left _ _)).append (below_d.mono (Nat.le_max_right _ _)), .cons ((one.more fun _ => List.mem_append_left _).level_le (Nat.le_max_left _ _)) (rest.more_le (fun _ => List.mem_append_right _) (Nat.le_max_right _ _))⟩
theorem tells_tuple {a : Addr} {o : Obj} {vs : Array Value} {n : Nat} {xs : List PyData} (at_a : h₀.get? a = some o) (cl : o.cls = .type "tuple") (dt : o.data = .seq vs n) (all : TellsAll prog w h₀ vs.toList xs) :
    Tells prog w h₀ (.ref a) (.tuple xs) ∧ Shows prog w h₀ (.ref a) (.tuple xs) := by
  obtain ⟨⟨as, rs⟩, told⟩ := all
  have r : Reads h₀ (.ref a) (.tuple xs) as := .tuple at_a cl dt rs
  have go : (PyData.tuple xs).showable = true → (PyData.tuple xs).shown.length ≤ sizeLine → ∃ bs, ReadAtMost h₀ (PyData.depthAll xs) bs ∧ a ∉ bs ∧ ReprAllK prog w bs h₀ (PyData.depthAll xs) vs.toList (PyData.shownAll xs) := fun sh short => by
    rw [PyData.showable] at sh
    rw [PyData.shown] at short
    obtain ⟨bs, below, k⟩ := told sh fun t m => Nat.le_trans (tupleText_mem_le m) short
    exact ⟨bs, below, not_mem_of_deeper r (by rw [PyData.depth]; omega) below, k⟩
  refine ⟨⟨⟨_, r⟩, fun sh short => ?_⟩, fun sh short => ?_⟩ <;> obtain ⟨bs, below, out, k⟩ := go sh short
  · rw [PyData.depth, PyData.shown]
    exact ⟨a :: bs, ReadAtMost.cons r (by rw [PyData.depth]; omega) below, ReprK.tuple at_a cl dt out k⟩
  · refine ⟨a, "tuple", "tuple.__repr__", rfl, { slotRepr := F.slot_tuple_repr, slotStr := F.slot_tuple_str, slotFmt := F.slot_tuple_format, typeIs := fun s kept => ⟨o, kept _ _ at_a, cl⟩, call := ?_ }⟩
    intro A E s Q calm room kept done
    rw [PyData.depth] at room
    rw [PyData.shown] at done short
    exact call_tuple_reprK at_a cl dt out k calm (fun b _ => Clear.nil b) room kept done short
theorem tells_list {a : Addr} {o : Obj} {vs : Array Value} {n : Nat} {xs : List PyData} (at_a : h₀.get? a = some o) (cl : o.cls = .type "list") (dt : o.data = .seq vs n) (all : TellsAll prog w h₀ vs.toList xs) :
    Tells prog w h₀ (.ref a) (.list xs) ∧ Shows prog w h₀ (.ref a) (.list xs) := by
  obtain ⟨⟨as, rs⟩, told⟩ := all
  have r : Reads h₀ (.ref a) (.list xs) (a :: as) := .list at_a cl dt rs
  have go : (PyData.list xs).showable = true → (PyData.list xs).shown.length ≤ sizeLine → ∃ bs, ReadAtMost h₀ (PyData.depthAll xs) bs ∧ a ∉ bs ∧ ReprAllK prog w bs h₀ (PyData.depthAll xs) vs.toList (PyData.shownAll xs) := fun sh short => by
    rw [PyData.showable] at sh
    rw [PyData.shown] at short
    obtain ⟨bs, below, k⟩ := told sh fun t m => Nat.le_trans (listText_mem_le m) short
    exact ⟨bs, below, not_mem_of_deeper r (by rw [PyData.depth]; omega) below, k⟩
  have slots (call) : ShowsBy prog w h₀ a (.list xs) "list" "list.__repr__" := { slotRepr := F.slot_list_repr.toG, slotStr := F.slot_list_str, slotFmt := F.slot_list_format, typeIs := fun s kept => ⟨o, kept _ _ at_a, cl⟩, call := call }
  rcases vs with ⟨_ | ⟨v, us⟩⟩
  · cases rs
    refine ⟨⟨⟨_, r⟩, fun _ _ => ⟨[a], ReadAtMost.cons r (Nat.le_refl _) nofun, ?_⟩⟩, fun _ _ => ⟨a, _, _, rfl, slots ?_⟩⟩
    · rw [PyData.shown, PyData.shownAll, listText_nil]
      exact ReprK.listEmpty at_a cl dt
    · intro A E s Q calm room kept done
      rw [PyData.shown, PyData.shownAll, listText_nil] at done
      exact call_list_repr_empty ⟨o, kept _ _ at_a, cl⟩ (kept _ _ at_a) dt (done s.heap _ _ fun _ _ e => e)
  · have each : ∀ {bs : List Addr}, ReprAllK prog w bs h₀ (PyData.depthAll xs) (v :: us) (PyData.shownAll xs) → (PyData.shownAll xs).length = (v :: us).toArray.size ∧ ∀ (i : Nat) (y : Value), (v :: us).toArray[i]? = some y → ∃ t, (PyData.shownAll xs)[i]? = some t ∧ ReprK prog w bs h₀ (PyData.depthAll xs) y t :=
      fun k => ⟨k.length_eq, fun i y e => k.item i y (by rw [← List.getElem?_toArray]; exact e)⟩
    refine ⟨⟨⟨_, r⟩, fun sh short => ?_⟩, fun sh short => ?_⟩ <;> obtain ⟨bs, below, out, k⟩ := go sh short
    · rw [PyData.depth, PyData.shown]
      exact ⟨a :: bs, ReadAtMost.cons r (by rw [PyData.depth]; omega) below, ReprK.list at_a cl dt out (each k).1 (each k).2⟩
    · refine ⟨a, _, _, rfl, slots ?_⟩
      intro A E s Q calm room kept done
      rw [PyData.depth] at room
      rw [PyData.shown] at done short
      exact call_list_reprK at_a cl dt out (each k).1 (each k).2 calm (fun b _ => Clear.nil b) room kept done short
theorem tells_empty {a : Addr} {o : Obj} {es : Array DictEntry} {n : Nat} (other : a ≠ sysModules) (at_a : h₀.get? a = some o) (cl : o.cls = .type "dict") (dt : o.data = .dict es n) (no : es.toList = []) :
    Tells prog w h₀ (.ref a) (.dict []) ∧ Shows prog w h₀ (.ref a) (.dict []) := by
  have r : Reads h₀ (.ref a) (.dict []) [a] := Reads.dict (kvs := []) (as := []) (bs := []) at_a cl dt (by rw [no]; exact ReadsAll.nil) (by rw [no]; exact ReadsAll.nil)
  have out : (a == sysModules) = false := beq_false_of_ne other
  have entries : ReprEntriesK prog w [] h₀ 0 es.toList [] := by rw [no]; exact .nil
  have deep : (PyData.dict []).depth = 0 + 1 := by rw [PyData.depth, PyData.depthKv]
  have text : (PyData.dict []).shown = dictText [] := by rw [PyData.shown, PyData.shownKv]
  refine ⟨⟨⟨_, r⟩, fun _ _ => ⟨[a], ReadAtMost.cons r (Nat.le_refl _) nofun, ?_⟩⟩, fun _ short => ⟨a, "dict", "dict.__repr__", rfl, { slotRepr := F.slot_dict_repr, slotStr := F.slot_dict_str, slotFmt := F.slot_dict_format, typeIs := fun s kept => ⟨o, kept _ _ at_a, cl⟩, call := ?_ }⟩⟩
  · rw [deep, text]
    exact ReprK.dict at_a cl dt out List.not_mem_nil entries
  · intro A E s Q calm room kept done
    rw [deep] at room
    rw [text] at done short
    exact call_dict_reprK at_a cl dt out List.not_mem_nil entries calm (fun b _ => Clear.nil b) room kept done short
theorem tells_flat {v : Value} {d : PyData} {t : Str} (r : Reads h₀ v d []) (is : d.showable = true → d.shown.length ≤ sizeLine → ReprIs prog w v d.shown) : Tells prog w h₀ v d :=
  ⟨⟨_, r⟩, fun sh short => ⟨[], nofun, .of_is (is sh short) _ _ _⟩⟩
mutual
theorem RdN.tells : ∀ (d : PyData) {v : Value}, RdN h₀ v d → Tells prog w h₀ v d
  | .none, _, r => tells_flat (t := "") r fun _ _ => by cases r; exact ReprIs.none
  | .bool _, _, r => tells_flat (t := "") r fun _ _ => by cases r; exact ReprIs.bool _
  | .int _, _, r => tells_flat (t := "") r fun sh _ => by cases r; exact ReprIs.int _ (by simpa [PyData.showable] using sh)
  | .str _, _, r => tells_flat (t := "") r fun _ short => by cases r; exact ReprIs.str _ _ (by rw [PyData.shown] at short; exact short)
  | .list xs, _, r => by obtain ⟨a, o, vs, n, rfl, h1, h2, h3, h4⟩ := r; exact (tells_list h1 h2 h3 (RdNs.tells xs h4)).1
  | .tuple xs, _, r => by obtain ⟨a, o, vs, n, rfl, h1, h2, h3, h4⟩ := r; exact (tells_tuple h1 h2 h3 (RdNs.tells xs h4)).1
  | .dict kvs, _, r => by obtain ⟨rfl, a, o, es, n, rfl, h1, h2, h3, h4, h5⟩ := r; exact (tells_empty h1 h2 h3 h4 h5).1
theorem RdNs.tells : ∀ (ds : List PyData) {vs : List Value}, RdNs h₀ vs ds → TellsAll prog w h₀ vs ds
  | [], _, r => by cases r; exact .none
  | d :: ds, _, r => by obtain ⟨v, us, rfl, a, b⟩ := r; exact .more (RdN.tells d a) (RdNs.tells ds b)
end
theorem RdN.shows {a : Addr} : ∀ {d : PyData}, RdN h₀ (.ref a) d → Shows prog w h₀ (.ref a) d
  | .none, r => nomatch (show Reads _ _ _ _ from r)
  | .bool _, r => nomatch (show Reads _ _ _ _ from r)
  | .int _, r => nomatch (show Reads _ _ _ _ from r)
  | .str _, r => nomatch (show Reads _ _ _ _ from r)
  | .list xs, r => by obtain ⟨b, o, vs, n, e, h1, h2, h3, h4⟩ := r; cases e; exact (tells_list h1 h2 h3 (RdNs.tells xs h4)).2
  | .tuple xs, r => by obtain ⟨b, o, vs, n, e, h1, h2, h3, h4⟩ := r; cases e; exact (tells_tuple h1 h2 h3 (RdNs.tells xs h4)).2
  | .dict kvs, r => by obtain ⟨rfl, b, o, es, n, e, h1, h2, h3, h4, h5⟩ := r; cases e; exact (tells_empty h1 h2 h3 h4 h5).2
theorem repr_of_N {a : Addr} {d : PyData} {A : Around} {E : Value → Shared → Prop} {s : Shared} {Q : Value → Shared → Prop} (r : RdN s.heap (.ref a) d) (sh : d.showable = true) (short : d.shown.length ≤ sizeLine) (calm : A.guards = some []) (room : A.units + (d.depth + 1) < cLine)
    (done : ∀ h' u tk, (∀ b o, s.heap.get? b = some o → h'.get? b = some o) → Q (.str d.shown u) { s with heap := h', toks := tk }) : wpAny (model prog w) A (call (.builtin "repr") [.ref a]) Q E s := by
  obtain ⟨_, T, idr, e, S⟩ := RdN.shows (prog := prog) (w := w) r sh short
  cases e
  have in1 : A.in1.units = A.units + 1 := rfl
  exact call_repr_slot (by omega) (S.typeIs s fun _ _ e => e) S.slotRepr (S.call A.in1 E s _ calm (by omega) (fun _ _ e => e) fun h' u tk kept => ⟨_, _, rfl, done h' u tk kept⟩)
end
mutual
def noO : PyData → Bool
  | .list xs | .tuple xs => noOL xs
  | .dict (_ :: _) => false
  | _ => true
def noOL : List PyData → Bool
  | [] => true
  | x :: xs => noO x && noOL xs
end
mutual
theorem noO_show {K : PySem.W.Frag} {G : Hp} : ∀ {v : V} {d : PyData}, Dn K G v d → d.showable = true → noO d = true
  | _, _, .non, _ => rfl
  | _, _, .bl _, _ => rfl
  | _, _, .int _, _ => rfl
  | _, _, .str _, _ => rfl
  | _, _, .lst _ t, h => by rw [noO]; exact noOL_show t (by simpa [PyData.showable] using h)
  | _, _, .tup _ t, h => by rw [noO]; exact noOL_show t (by simpa [PyData.showable] using h)
  | _, _, .dic _ _, _ => rfl
  | _, _, .ob _ _ _ _, h => by
    have z : ¬ markI.natAbs.log2 < 1920 := by decide +kernel
    simp [PyData.showable, PyData.showableKv, z] at h
  | _, _, .fK _ _ _, h => by
    have z : ¬ markI.natAbs.log2 < 1920 := by decide +kernel
    simp [PyData.showable, PyData.showableKv, z] at h
  | _, _, .fT _ _ _, h => by
    have z : ¬ markI.natAbs.log2 < 1920 := by decide +kernel
    simp [PyData.showable, PyData.showableKv, z] at h
theorem noOL_show {K : PySem.W.Frag} {G : Hp} : ∀ {vs : List V} {ds : List PyData}, DnL K G vs ds → PyData.showableAll ds = true → noOL ds = true
  | _, _, .nil, _ => rfl
  | _, _, .cons a b, h => by
    rw [PyData.showableAll, Bool.and_eq_true] at h
    rw [noOL, noO_show a h.1, noOL_show b h.2]
    rfl
end
mutual
theorem noO_lay : ∀ d : PyData, d.canLay0 = true → noO d = true
  | .none, _ => rfl
  | .bool _, _ => rfl
  | .int _, _ => rfl
  | .str _, _ => rfl
  | .list xs, h => by rw [noO]; exact noOL_lay xs (by simpa [PyData.canLay0] using h)
  | .tuple xs, h => by rw [noO]; exact noOL_lay xs (by simpa [PyData.canLay0] using h)
  | .dict _, h => by simp [PyData.canLay0] at h
theorem noOL_lay : ∀ ds : List PyData, PyData.canLayAll0 ds = true → noOL ds = true
  | [], _ => rfl
  | d :: ds, h => by
    rw [PyData.canLayAll0, Bool.and_eq_true] at h
    rw [noOL, noO_lay d h.1, noOL_lay ds h.2]
    rfl
end
theorem noOL_ints : ∀ ns : List Int, noOL (ns.map PyData.int) = true
  | [] => rfl
  | n :: ns => by rw [List.map_cons, noOL, noOL_ints ns]; rfl
omit [Tb] in
@[simp] theorem noO_i (i : Int) : noO (.int i) = true := rfl
omit [Tb] in
@[simp] theorem noO_b (i : Bool) : noO (.bool i) = true := rfl
omit [Tb] in
@[simp] theorem noO_s (i : Str) : noO (.str i) = true := rfl
omit [Tb] in
@[simp] theorem noO_n : noO .none = true := rfl
omit [Tb] in
@[simp] theorem noOL_e : noOL [] = true := rfl
section
variable {X : Cx} {pins : List (Addr × Obj)} {σ : L2.St} {H : Hp} {s : Shared}
mutual
theorem Dn.rdN (I : L2.Inv X pins σ H s) : ∀ (d : PyData) {v : V} {u : Value}, noO d = true → Dn X.K H v d → RelV v u → RdN s.heap u d
  | .none, _, _, _, h, r => by cases h; cases r; exact Reads.none
  | .bool b, _, _, _, h, r => by cases h; cases r; exact Reads.bool b
  | .int i, _, _, _, h, r => by cases h; obtain ⟨t, rfl⟩ := r; exact Reads.int i t
  | .str x, _, _, _, h, r => by cases h; obtain ⟨t, rfl⟩ := r; exact Reads.str x t
  | .list ds, _, _, c, .lst h t, r => by
    rw [noO] at c
    cases r
    obtain ⟨its, rv, ⟨o, n, ho, hc, _, hd⟩, _⟩ := I.list (SqL.of h)
    exact ⟨_, o, _, n, rfl, ho, hc, hd, DnL.rdN I ds c t rv⟩
  | .tuple ds, _, _, c, .tup h t, r => by
    rw [noO] at c
    cases r
    obtain ⟨its, rv, ⟨o, ho, hc, n, hd⟩, _⟩ := I.tuple (SqT.of h)
    exact ⟨_, o, _, n, rfl, ho, hc, hd, DnL.rdN I ds c t rv⟩
  | .dict (_ :: _), _, _, c, _, _ => by simp [noO] at c
  | .dict [], _, _, _, .dic h n, r => by
    cases r
    obtain ⟨_, other, vs, kv, o, es, ep, ho, ⟨hc, _⟩, hd, _, hp, _⟩ := I.hok _ _ h
    cases kv
    have no : ∀ l, Pairs (mixKind X.prog X.w) l ([] : List (L2.Key × Value)) → l = [] := fun l q => by cases q; rfl
    exact ⟨rfl, _, o, es, ep, rfl, beq_eq_false_iff_ne.mp other, ho, hc, hd, no _ hp⟩
theorem DnL.rdN (I : L2.Inv X pins σ H s) : ∀ (ds : List PyData) {vs : List V} {us : List Value}, noOL ds = true → DnL X.K H vs ds → Vals vs us → RdNs s.heap us ds
  | [], _, _, _, h, r => by cases h; cases r; exact rfl
  | d :: ds, _, _, c, .cons a b, .cons r1 r2 => by
    rw [noOL, Bool.and_eq_true] at c
    exact ⟨_, _, rfl, Dn.rdN I d c.1 a r1, DnL.rdN I ds c.2 b r2⟩
end
end

/-- repr of data, with empty dicts or not -/
def pReprN : PN := one fun x R => x.showable = true ∧ x.depth ≤ 60 ∧ x.shown.length ≤ 16000000 ∧ R (.str x.shown)
section
variable {X : Cx}
theorem c_reprN (hg : X.A.guards = some []) (hu : X.A.units + 64 < cLine) : CallD X (.builtin "repr") pReprN := by
  intro pins s σ H vs us Q I r ⟨B, G, δ, σ', ds, R, rel, b, q, k⟩
  match ds, q with
  | [d], ⟨q1, q3, q4, q⟩ =>
    obtain ⟨v, rfl, bd⟩ := b.one
    obtain ⟨u, rfl, ru⟩ := vals1 r; have dn := bd.dn rel
    have fin := k (.str d.shown) H G _ q (Same.refl _) rel (Dn.str _)
    have hsz : d.shown.length ≤ sizeLine := Nat.le_trans q4 (by decide)
    have rd := Dn.rdN I d (noO_show dn q1) dn ru
    have go : ∀ {x : Str} {t : Tok} {s' : Shared}, x = d.shown → Inv X pins σ H s' → EP X pins σ Q (.str x t) s' := fun {x t s'} e I' => by
      subst e
      exact ⟨.str d.shown, H, I', ⟨t, rfl⟩, fin⟩
    have big : ∀ a, u = .ref a → wpAny (model X.prog X.w) X.A (call (.builtin "repr") [u]) (EP X pins σ Q) X.xe s := fun a e => by
      subst e
      exact repr_of_N rd q1 hsz hg (by omega) fun h' u tk hk => go rfl (I.kept hk)
    cases dn with
    | non => cases ru; exact PySem.P.repr_of_none (go rfl (I.tok _))
    | bl b => cases ru; exact PySem.P.repr_of_bool (go (by cases b <;> simp [PyData.shown]) (I.tok _))
    | int i => obtain ⟨t, rfl⟩ := ru; exact PySem.P.repr_of_int (by simpa [PyData.showable] using q1) (go (by simp [PyData.shown]) (I.tok _))
    | str z => obtain ⟨t, rfl⟩ := ru; exact PySem.P.repr_of_str (go (by simp [PyData.shown]) (I.tok _)) (by simpa [PyData.shown] using hsz)
    | lst h t => cases ru; exact big _ rfl
    | tup h t => cases ru; exact big _ rfl
    | dic h n => cases ru; exact big _ rfl
    | ob h k e t => cases ru; exact big _ rfl
    | fK h e t => cases ru; exact big _ rfl
    | fT h e t => cases ru; exact big _ rfl
end
omit [Tb] in
@[simp ↓] theorem pReprN_x (x : PyData) (R : PyData → Prop) : pReprN [x] R = (x.showable = true ∧ x.depth ≤ 60 ∧ x.shown.length ≤ 16000000 ∧ R (.str x.shown)) := rfl
end DL
set_option Elab.async false
set_option linter.all false
set_option maxRecDepth 100000
set_option maxHeartbeats 4000000
namespace DL
open PySem PySem.Spec PyProof.Rows L2
variable [Tb]
section
variable {prog : Program} {w : World} {A : Around} {E : Value → Shared → Prop} {s : Shared}
end
section
variable {X : Cx}
/-- x[::-1] of a list or a tuple -/
def revD (x : PyData) (k : PyData → Prop) : Prop := match x with
  | .list ds => k (.list ds.reverse)
  | .tuple ds => k (.tuple ds.reverse)
  | _ => False
omit [Tb] in
@[simp ↓] theorem revD_l (ds : List PyData) (k : PyData → Prop) : revD (.list ds) k = k (.list ds.reverse) := rfl
omit [Tb] in
@[simp ↓] theorem revD_t (ds : List PyData) (k : PyData → Prop) : revD (.tuple ds) k = k (.tuple ds.reverse) := rfl
def wRevA (w : DE) : DE := fun δ R => w δ fun o δ1 => use o δ1 fun x => revD x fun z => R (.d z) δ1
omit [Tb] in
@[simp ↓] theorem wRevA_ap (w : DE) (δ : DS) (R : Opd → DS → Prop) : wRevA w δ R = (w δ fun o δ1 => use o δ1 fun x => revD x fun z => R (.d z) δ1) := rfl
def pAddB : P2 := fun x y R => match x, y with
  | .bool b, .int j => R (.int ((if b = true then 1 else 0) + j))
  | x, y => pAdd x y R
def pSubB : P2 := fun x y R => match x, y with
  | .bool b, .int j => R (.int ((if b = true then 1 else 0) - j))
  | x, y => pSub x y R
theorem d_addB : OpD X (binaryOp .Add) pAddB := by
  intro pins s σ H x y v u Q I rx ry ⟨B, G, δ, σ', dx, dy, R, rel, bx, by', q, k⟩
  by_cases c : ∃ b j, dx = .bool b ∧ dy = .int j
  · obtain ⟨b, j, rfl, rfl⟩ := c
    obtain rfl := bor_bool bx
    obtain rfl := bor_int by'
    cases rx
    obtain ⟨t, rfl⟩ := ry
    exact IntBool.add_bool_int ⟨.int _, H, I.tok _, ⟨_, rfl⟩, k _ H G _ q (Same.refl _) rel (Dn.int _)⟩
  · refine d_add pins s σ H x y v u Q I rx ry ⟨B, G, δ, σ', dx, dy, R, rel, bx, by', ?_, k⟩
    unfold pAddB at q
    split at q
    · exact absurd ⟨_, _, rfl, rfl⟩ c
    · exact q
theorem d_subB : OpD X (binaryOp .Sub) pSubB := by
  intro pins s σ H x y v u Q I rx ry ⟨B, G, δ, σ', dx, dy, R, rel, bx, by', q, k⟩
  by_cases c : ∃ b j, dx = .bool b ∧ dy = .int j
  · obtain ⟨b, j, rfl, rfl⟩ := c
    obtain rfl := bor_bool bx
    obtain rfl := bor_int by'
    cases rx
    obtain ⟨t, rfl⟩ := ry
    exact IntBool.sub_bool_int ⟨.int _, H, I.tok _, ⟨_, rfl⟩, k _ H G _ q (Same.refl _) rel (Dn.int _)⟩
  · refine d_sub pins s σ H x y v u Q I rx ry ⟨B, G, δ, σ', dx, dy, R, rel, bx, by', ?_, k⟩
    unfold pSubB at q
    split at q
    · exact absurd ⟨_, _, rfl, rfl⟩ c
    · exact q
omit [Tb] in
@[simp ↓] theorem pAddB_bi (b : Bool) (j : Int) (R : PyData → Prop) : pAddB (.bool b) (.int j) R = R (.int ((if b = true then 1 else 0) + j)) := rfl
omit [Tb] in
@[simp ↓] theorem pAddB_ii (i : Int) (j : Int) (R : PyData → Prop) : pAddB (.int i) (.int j) R = (R (.int (i + j))) := rfl
omit [Tb] in
@[simp ↓] theorem pAddB_ss (a : Str) (b : Str) (R : PyData → Prop) : pAddB (.str a) (.str b) R = (a.length + b.length ≤ 1000000 ∧ R (.str (a ++ b))) := rfl
omit [Tb] in
@[simp ↓] theorem pAddB_tt (xs : List PyData) (ys : List PyData) (R : PyData → Prop) : pAddB (.tuple xs) (.tuple ys) R = (xs.length + ys.length ≤ 1000000 ∧ R (.tuple (xs ++ ys))) := rfl
omit [Tb] in
@[simp ↓] theorem pAddB_ll (xs : List PyData) (ys : List PyData) (R : PyData → Prop) : pAddB (.list xs) (.list ys) R = (xs.length + ys.length ≤ 1000000 ∧ R (.list (xs ++ ys))) := rfl
omit [Tb] in
@[simp ↓] theorem pSubB_bi (b : Bool) (j : Int) (R : PyData → Prop) : pSubB (.bool b) (.int j) R = R (.int ((if b = true then 1 else 0) - j)) := rfl
omit [Tb] in
@[simp ↓] theorem pSubB_ii (i : Int) (j : Int) (R : PyData → Prop) : pSubB (.int i) (.int j) R = (R (.int (i - j))) := rfl
end
end DL
namespace DL
open PySem PySem.Spec PyProof.Rows L2
variable [Tb]
def pStrB : PN := one fun x R => match x with
  | .int i => i.natAbs.log2 < 1920 ∧ R (.str (toString i))
  | .bool b => R (.str (if b then ("True" : Str) else ("False" : Str)))
  | .str z => R (.str z)
  | _ => False
section
variable {X : Cx}
omit [Tb] in
@[simp ↓] theorem pStrB_i (i : Int) (R : PyData → Prop) : pStrB [.int i] R = (i.natAbs.log2 < 1920 ∧ R (.str (toString i))) := rfl
omit [Tb] in
@[simp ↓] theorem pStrB_b (b : Bool) (R : PyData → Prop) : pStrB [.bool b] R = R (.str (if b then ("True" : Str) else ("False" : Str))) := rfl
omit [Tb] in
@[simp ↓] theorem pStrB_s (z : Str) (R : PyData → Prop) : pStrB [.str z] R = R (.str z) := rfl
end
section
variable {P : Program} {w : World} {K : PySem.W.Frag} {mg : Str → Option Value} {base : Heap} {CX : CXT} {f : Addr} {fd : FuncData} {ps : List Str} {k : Nat}
end
end DL
set_option Elab.async false
set_option linter.all false
set_option maxRecDepth 100000
set_option maxHeartbeats 4000000
namespace DL
open PySem PySem.Spec PyProof.Rows L2
variable [Tb]
section
omit [Tb]
mutual
theorem noO_alike : ∀ d : PyData, W.alike d d = true → noO d = true
  | .none, _ => rfl
  | .bool _, _ => rfl
  | .int _, _ => rfl
  | .str _, _ => rfl
  | .list xs, h => by rw [noO]; exact noOL_alike xs (by simpa [W.alike] using h)
  | .tuple xs, h => by rw [noO]; exact noOL_alike xs (by simpa [W.alike] using h)
  | .dict _, h => by simp [W.alike] at h
theorem noOL_alike : ∀ ds : List PyData, W.alikeAll ds ds = true → noOL ds = true
  | [], _ => rfl
  | d :: ds, h => by
    rw [W.alikeAll, Bool.and_eq_true] at h
    rw [noOL, noO_alike d h.1, noOL_alike ds h.2]
    rfl
end
end
/-- upwards -/
abbrev leD : PyData → PyData → Bool := W.dataLe false id
def sortD (ds : List PyData) : List PyData := ds.mergeSort leD
def pSorted : PN := one fun x R => match x with
  | .list ds => W.AllAlike ds ∧ W.Sortable ds ∧ ds.length ≤ 1000000 ∧ (∀ d ∈ ds, d.depth ≤ 50) ∧ R (.list (sortD ds))
  | _ => False
section
variable {X : Cx}
end
omit [Tb] in
@[simp ↓] theorem pSorted_l (ds : List PyData) (R : PyData → Prop) : pSorted [.list ds] R = (W.AllAlike ds ∧ W.Sortable ds ∧ ds.length ≤ 1000000 ∧ (∀ d ∈ ds, d.depth ≤ 50) ∧ R (.list (sortD ds))) := rfl
end DL
set_option Elab.async false
set_option linter.all false
set_option maxRecDepth 100000
set_option maxHeartbeats 4000000
namespace DL
open PySem PySem.Spec PyProof.Rows L2
variable [Tb]
def pMaxS : PN := one fun x R => match x with
  | .list ds => ∃ ns : List Int, ds = ns.map PyData.int ∧ 0 < ns.length ∧ ∀ m, m ∈ ns → (∀ y ∈ ns, y ≤ m) → R (.int m)
  | .tuple ds => ∃ ns : List Int, ds = ns.map PyData.int ∧ 0 < ns.length ∧ ∀ m, m ∈ ns → (∀ y ∈ ns, y ≤ m) → R (.int m)
  | _ => False
def pMinS : PN := one fun x R => match x with
  | .list ds => ∃ ns : List Int, ds = ns.map PyData.int ∧ 0 < ns.length ∧ ∀ m, m ∈ ns → (∀ y ∈ ns, m ≤ y) → R (.int m)
  | .tuple ds => ∃ ns : List Int, ds = ns.map PyData.int ∧ 0 < ns.length ∧ ∀ m, m ∈ ns → (∀ y ∈ ns, m ≤ y) → R (.int m)
  | _ => False
theorem alike_ints (ns : List Int) : W.AlikeAll (ns.map PyData.int) := ⟨fun x hx y hy => by
  obtain ⟨a, _, rfl⟩ := List.mem_map.mp hx
  obtain ⟨b, _, rfl⟩ := List.mem_map.mp hy
  rfl, fun x hx => by
  obtain ⟨a, _, rfl⟩ := List.mem_map.mp hx
  intro h; cases h⟩
theorem foldl_max_mem : ∀ (n : Int) (ns : List Int), ns.foldl max n ∈ n :: ns ∧ ∀ y ∈ n :: ns, y ≤ ns.foldl max n
  | n, [] => ⟨by simp, by simp⟩
  | n, m :: ns => by
    obtain ⟨h1, h2⟩ := foldl_max_mem (max n m) ns
    rw [List.foldl_cons]
    refine ⟨?_, fun y hy => ?_⟩
    · rcases List.mem_cons.mp h1 with e | e
      · rw [e]
        by_cases c : n ≤ m
        · rw [Int.max_eq_right c]; simp
        · rw [Int.max_eq_left (by omega)]; simp
      · exact List.mem_cons_of_mem _ (List.mem_cons_of_mem _ e)
    · have h3 := h2 (max n m) (List.mem_cons_self ..)
      rcases List.mem_cons.mp hy with rfl | hy
      · have := Int.le_max_left y m; omega
      · rcases List.mem_cons.mp hy with rfl | hy
        · have := Int.le_max_right n y; omega
        · exact h2 y (List.mem_cons_of_mem _ hy)
section
variable {X : Cx}
theorem rdNs_reads {h : Heap} {vs : List Value} {ds : List PyData} (r : RdNs h vs ds) : ∃ as, ReadsAll h vs ds as := RdNs.reads ds r
theorem reads_int {h : Heap} {v : Value} {d : PyData} {as : List Addr} {n : Int} {t : Tok} (r : Reads h v d as) (e : v = .int n t) : d = .int n := by
  subst e; cases r; rfl
theorem int_at {ns : List Int} {us : List Value} (r : Vals (ns.map V.int) us) {i : Nat} {v : Value} (h : us[i]? = some v) : ∃ n t, v = .int n t ∧ n ∈ ns := by
  have hl := r.length
  have hi : i < us.length := (List.getElem?_eq_some_iff.mp h).1
  have hi2 : i < ns.length := by have := hl; rw [List.length_map] at this; omega
  have h2 : (ns.map V.int)[i]? = some (.int ns[i]) := by rw [List.getElem?_map, List.getElem?_eq_getElem hi2]; rfl
  obtain ⟨u, hu, ru⟩ := Vals.get r h2
  rw [h] at hu; cases hu
  obtain ⟨t, rfl⟩ := ru
  exact ⟨_, t, rfl, List.getElem_mem hi2⟩
theorem c_maxS (hc : X.calm = true) (hu : X.A.units + 64 < cLine) : CallD X (.builtin "max") pMaxS := by
  intro pins s σ H vs us Q I r ⟨B, G, δ, σ', ds, R, rel, b, q, k⟩
  match ds, q with
  | [d], q =>
    cases d with
    | list xs => exact c_max hc pins s σ H vs us Q I r ⟨B, G, δ, σ', [.list xs], R, rel, b, q, k⟩
    | tuple xs =>
      obtain ⟨v, rfl, bd⟩ := b.one
      obtain ⟨a, ws, rfl, ha, ta⟩ := bor_tup bd
      obtain ⟨ns, rfl, q1, q⟩ := q
      obtain rfl := ta.toInts
      obtain ⟨u, rfl, ru⟩ := vals1 r
      cases ru
      obtain ⟨its, rv, p, hz⟩ := I.tuple (sqT_mono rel.sg ha)
      obtain ⟨as, ra⟩ := rdNs_reads (DnL.rdN I (ns.map PyData.int) (noOL_ints _) (ta.mono rel.sg) rv)
      match ns, q1 with
      | n :: ns, _ =>
        refine W.max_tuple_data (vs := its.toArray) (x := .int n) (xs := ns.map PyData.int) (as := as) (I.ok.hd hc) p (by simpa using ra) (alike_ints (n :: ns)) ?_ fun i v h' tk bs hi hr hk => ?_
        · have := depth_ints (n :: ns)
          rw [List.map_cons] at this
          rw [this]; omega
        · obtain ⟨m, t, rfl, hm⟩ := int_at rv (by simpa using hi)
          rw [W.maxD_ints] at hr
          have e := reads_int hr rfl
          cases e
          have := foldl_max_mem n ns
          exact ⟨.int _, H, I.kept hk, ⟨_, rfl⟩, k _ H G _ (q _ this.1 this.2) (Same.refl _) rel (Dn.int _)⟩
    | _ => exact False.elim q
end
omit [Tb] in
@[simp ↓] theorem pMaxS_l (ds : List PyData) (R : PyData → Prop) : pMaxS [.list ds] R = onIs ds (fun ns => 0 < ns.length ∧ ∀ m, m ∈ ns → (∀ y ∈ ns, y ≤ m) → R (.int m)) .mk := rfl
omit [Tb] in
@[simp ↓] theorem pMinS_l (ds : List PyData) (R : PyData → Prop) : pMinS [.list ds] R = onIs ds (fun ns => 0 < ns.length ∧ ∀ m, m ∈ ns → (∀ y ∈ ns, m ≤ y) → R (.int m)) .mk := rfl
omit [Tb] in
@[simp ↓] theorem pMaxS_t (ds : List PyData) (R : PyData → Prop) : pMaxS [.tuple ds] R = onIs ds (fun ns => 0 < ns.length ∧ ∀ m, m ∈ ns → (∀ y ∈ ns, y ≤ m) → R (.int m)) .mk := rfl
omit [Tb] in
@[simp ↓] theorem pMinS_t (ds : List PyData) (R : PyData → Prop) : pMinS [.tuple ds] R = onIs ds (fun ns => 0 < ns.length ∧ ∀ m, m ∈ ns → (∀ y ∈ ns, m ≤ y) → R (.int m)) .mk := rfl
end DL
set_option Elab.async false
set_option linter.all false
set_option maxRecDepth 100000
set_option maxHeartbeats 4000000
namespace DL
open PySem PySem.Spec PyProof.Rows L2
variable [Tb]
section
variable {X : Cx} {pos : Pos} {i : Nat}
end
def endsM (i : Nat) (cs : List Cell) (R : Cell → List Cell → Prop) : DEnds := { nx := fun δ => sameIo cs δ ∧ cs.length ≤ i ∧ ∃ a xs, δ[i]? = some (.ol a xs) ∧ R (.ol a xs) (outC cs δ), rt := fun _ _ => False }
section
variable {P : Program} {w : World} {K : PySem.W.Frag} {mg : Str → Option Value} {base : Heap}
end
def wLstRg1 (w : DE) : DL := fun δ R => w δ fun o δ1 => use o δ1 fun x => asI x (fun n => -1000000 ≤ n ∧ n ≤ 1000000 ∧ R (nums 0 n.toNat) δ1) .mk
def wLstRg2 (w u : DE) : DL := fun δ R => w δ fun o δ1 => u δ1 fun o2 δ2 => use o δ2 fun x => use o2 δ2 fun y => asI x (fun m => asI y (fun n => (-1000000 ≤ m ∧ m ≤ 1000000 ∧ -1000000 ≤ n ∧ n ≤ 1000000) ∧ R (nums m (n - m).toNat) δ2) .mk) .mk
omit [Tb] in
@[simp ↓] theorem wLstRg1_ap (w : DE) (δ : DS) (R : List PyData → DS → Prop) : wLstRg1 w δ R = (w δ fun o δ1 => use o δ1 fun x => asI x (fun n => -1000000 ≤ n ∧ n ≤ 1000000 ∧ R (nums 0 n.toNat) δ1) .mk) := rfl
omit [Tb] in
@[simp ↓] theorem wLstRg2_ap (w u : DE) (δ : DS) (R : List PyData → DS → Prop) : wLstRg2 w u δ R = (w δ fun o δ1 => u δ1 fun o2 δ2 => use o δ2 fun x => use o2 δ2 fun y => asI x (fun m => asI y (fun n => (-1000000 ≤ m ∧ m ≤ 1000000 ∧ -1000000 ≤ n ∧ n ≤ 1000000) ∧ R (nums m (n - m).toNat) δ2) .mk) .mk) := rfl
section
variable {X : Cx} {pos : Pos}
def wPopA (i : Nat) (w : DE) : DE := fun δ R => isOl δ i ∧ w δ fun o δ1 => use o δ1 fun z => asI z (fun j => olC δ1[i]? (fun a xs => 0 ≤ j ∧ j < xs.length ∧ xs.length ≤ 1000000 ∧ onS xs[j.toNat]? (fun y => R (.d y) (δ1.set i (.ol a (xs.eraseIdx j.toNat)))) .mk) .mk) .mk
omit [Tb] in
@[simp ↓] theorem wPopA_ap (i : Nat) (w : DE) (δ : DS) (R : Opd → DS → Prop) : wPopA i w δ R = (isOl δ i ∧ w δ fun o δ1 => use o δ1 fun z => asI z (fun j => olC δ1[i]? (fun a xs => 0 ≤ j ∧ j < xs.length ∧ xs.length ≤ 1000000 ∧ onS xs[j.toNat]? (fun y => R (.d y) (δ1.set i (.ol a (xs.eraseIdx j.toNat)))) .mk) .mk) .mk) := rfl
end
def lsC (x : PyData) (k : List PyData → Prop) (_u : Stop k) : Prop := match x with
  | .list xs => k xs
  | _ => False
omit [Tb] in
@[simp ↓] theorem lsC_l (xs : List PyData) (k : List PyData → Prop) (u : Stop k) : lsC (.list xs) k u = k xs := rfl
def ixOf (ds : List PyData) (y : PyData) : Option Nat := ds.findIdx? fun z => PyData.eqv z y
def wIndex (w u : DE) : DE := fun δ R => w δ fun o δ1 => use o δ1 fun x => lsC x (fun _ => u δ1 fun o2 δ2 => use o δ2 fun x2 => use o2 δ2 fun y => lsC x2 (fun ds => SeqAt.shaped (.list ds) = true ∧ SeqAt.shaped y = true ∧ onS (ixOf ds y) (fun j => R (.d (.int (j : Nat))) δ2) .mk) .mk) .mk
omit [Tb] in
@[simp ↓] theorem wIndex_ap (w u : DE) (δ : DS) (R : Opd → DS → Prop) : wIndex w u δ R = (w δ fun o δ1 => use o δ1 fun x => lsC x (fun _ => u δ1 fun o2 δ2 => use o δ2 fun x2 => use o2 δ2 fun y => lsC x2 (fun ds => SeqAt.shaped (.list ds) = true ∧ SeqAt.shaped y = true ∧ onS (ixOf ds y) (fun j => R (.d (.int (j : Nat))) δ2) .mk) .mk) .mk) := rfl
section
variable {X : Cx} {pos : Pos}
end
end DL
set_option Elab.async false
set_option linter.all false
set_option maxRecDepth 100000
set_option maxHeartbeats 4000000
namespace DL
open PySem PySem.Spec PyProof.Rows L2
variable [Tb]
variable {g : DTG} {t : DT} {e : DE} {vs : List Nat} {xs : List PyData} {δ : DS}
end DL
set_option Elab.async false
set_option linter.all false
set_option maxRecDepth 100000
set_option maxHeartbeats 4000000
namespace DL
open PySem PySem.Spec PyProof.Rows L2
variable [Tb]
mutual
theorem eq_of_eqv : ∀ (x y : PyData), W.alike x y = true → PyData.eqv x y = true → x = y
  | .none, y, h, e => by cases y <;> simp [W.alike] at h ⊢
  | .bool a, y, h, e => by cases y <;> simp [W.alike, PyData.eqv] at h e ⊢; exact e
  | .int a, y, h, e => by cases y <;> simp [W.alike, PyData.eqv] at h e ⊢; exact e
  | .str a, y, h, e => by cases y <;> simp [W.alike, PyData.eqv] at h e ⊢; exact e
  | .list xs, y, h, e => by
    cases y with
    | list ys => rw [eq_of_eqvAll xs ys (by simpa [W.alike] using h) (by simpa [PyData.eqv] using e)]
    | _ => simp [W.alike] at h
  | .tuple xs, y, h, e => by
    cases y with
    | tuple ys => rw [eq_of_eqvAll xs ys (by simpa [W.alike] using h) (by simpa [PyData.eqv] using e)]
    | _ => simp [W.alike] at h
  | .dict xs, y, h, e => by cases y <;> simp [W.alike] at h
theorem eq_of_eqvAll : ∀ (xs ys : List PyData), W.alikeAll xs ys = true → PyData.eqvAll xs ys = true → xs = ys
  | [], ys, h, e => by cases ys <;> simp [PyData.eqvAll] at e ⊢
  | x :: xs, ys, h, e => by
    cases ys with
    | nil => simp [PyData.eqvAll] at e
    | cons y ys =>
      rw [W.alikeAll, Bool.and_eq_true] at h
      rw [PyData.eqvAll, Bool.and_eq_true] at e
      rw [eq_of_eqv x y h.1 e.1, eq_of_eqvAll xs ys h.2 e.2]
end
theorem leD_eq (x y : PyData) : leD x y = !W.dataLt y x := rfl
theorem leD_trans (a b c : PyData) (h1 : leD a b = true) (h2 : leD b c = true) : leD a c = true := by
  rw [leD_eq] at *
  simp only [Bool.not_eq_true'] at *
  cases h : W.dataLt c a with
  | false => rfl
  | true =>
    rcases lex_negTrans (O := itemOrd) (W.keyToks c) (W.keyToks b) (W.keyToks a) h with q | q
    · have : W.dataLt c b = true := q
      rw [h2] at this; cases this
    · have : W.dataLt b a = true := q
      rw [h1] at this; cases this
theorem leD_total (a b : PyData) : (leD a b || leD b a) = true := by
  rw [leD_eq, leD_eq]
  cases h1 : W.dataLt b a <;> cases h2 : W.dataLt a b <;> try rfl
  have := lex_trans (O := itemOrd) _ _ _ h1 h2
  rw [lex_irrefl] at this; cases this
theorem leD_anti {a b : PyData} (h : W.alike a b = true) (h1 : leD a b = true) (h2 : leD b a = true) : a = b := by
  rw [leD_eq] at h1 h2
  simp only [Bool.not_eq_true'] at h1 h2
  have e := lex_total (O := itemOrd) _ _ h1 h2
  refine eq_of_eqv a b h ?_
  cases q : PyData.eqv a b with
  | true => rfl
  | false =>
    have := (W.toks_eqv a b h).2 q [] [.inl 5]
    rw [List.append_nil, e] at this
    have p := W.lex_pre (W.keyToks a) [] [.inl 5]
    rw [List.append_nil] at p
    rw [p, lex_irrefl] at this
    cases this
theorem sort_pw (ds : List PyData) : (sortD ds).Pairwise fun a b => leD a b = true := List.pairwise_mergeSort leD_trans leD_total ds
theorem sort_perm {xs ys : List PyData} (ha : W.AllAlike xs) (h : xs.Perm ys) : sortD xs = sortD ys := by
  have p1 : (sortD xs).Perm xs := List.mergeSort_perm _ _
  have p2 : (sortD ys).Perm ys := List.mergeSort_perm _ _
  refine List.Perm.eq_of_pairwise (le := fun a b => leD a b = true) (fun a b ma mb l1 l2 => ?_) (sort_pw xs) (sort_pw ys) (p1.trans (h.trans p2.symm))
  exact leD_anti (ha _ (p1.mem_iff.mp ma) _ (h.mem_iff.mpr (p2.mem_iff.mp mb))) l1 l2
end DL
set_option Elab.async false
set_option linter.all false
set_option maxRecDepth 100000
set_option maxHeartbeats 4000000
namespace DL
open PySem PySem.Spec PyProof.Rows L2
variable [Tb]
inductive Pt
  | val (d : PyData)
  | cap (i : Nat)
def eachM : List Pt → List PyData → (Option (List (Nat × PyData)) → Prop) → Prop
  | [], [], k => k (some [])
  | .val d :: ps, x :: xs, k => pEq x d fun z => ∃ b, z = .bool b ∧ if b = true then eachM ps xs k else k none
  | .cap i :: ps, x :: xs, k => eachM ps xs fun o => match o with
    | none => k none
    | some bs => k (some ((i, x) :: bs))
  | _, _, _ => False
def setsD (δ : DS) : List (Nat × PyData) → DS
  | [] => δ
  | (i, x) :: r => setsD (δ.set i (.d x)) r
inductive Ct
  | seq (ps : List Pt) (b : DTS)
  | wild (b : DTS)
def caseM : List Ct → List PyData → DTS
  | [], _, E, δ => E.nx δ
  | .wild b :: _, _, E, δ => b E δ
  | .seq ps b :: cs, xs, E, δ => if xs.length = ps.length then eachM ps xs fun o => match o with
      | none => caseM cs xs E δ
      | some bs => b E (setsD δ bs)
    else caseM cs xs E δ
def tpC (x : PyData) (k : List PyData → Prop) (_u : Stop k) : Prop := match x with
  | .tuple xs => k xs
  | _ => False
omit [Tb] in
@[simp ↓] theorem tpC_t (xs : List PyData) (k : List PyData → Prop) (u : Stop k) : tpC (.tuple xs) k u = k xs := rfl
def wMatch (w : DE) (cs : List Ct) : DTS := fun E δ => w δ fun o δ1 => lk o δ1 fun x δ2 => tpC x (fun xs => xs.length ≤ 1000000 ∧ caseM cs xs E δ2) .mk
omit [Tb] in
@[simp ↓] theorem wMatch_ap (w : DE) (cs : List Ct) (E : DEnds) (δ : DS) : wMatch w cs E δ = (w δ fun o δ1 => lk o δ1 fun x δ2 => tpC x (fun xs => xs.length ≤ 1000000 ∧ caseM cs xs E δ2) .mk) := rfl
omit [Tb] in
@[simp ↓] theorem eachM_nil (k : Option (List (Nat × PyData)) → Prop) : eachM [] [] k = k (some []) := rfl
omit [Tb] in
@[simp ↓] theorem eachM_val (d x : PyData) (ps : List Pt) (xs : List PyData) (k : Option (List (Nat × PyData)) → Prop) : eachM (.val d :: ps) (x :: xs) k = (pEq x d fun z => ∃ b, z = .bool b ∧ if b = true then eachM ps xs k else k none) := rfl
omit [Tb] in
@[simp ↓] theorem eachM_cap (i : Nat) (x : PyData) (ps : List Pt) (xs : List PyData) (k : Option (List (Nat × PyData)) → Prop) : eachM (.cap i :: ps) (x :: xs) k = (eachM ps xs fun o => match o with
    | none => k none
    | some bs => k (some ((i, x) :: bs))) := rfl
omit [Tb] in
@[simp ↓] theorem caseM_nil (xs : List PyData) (E : DEnds) (δ : DS) : caseM [] xs E δ = E.nx δ := rfl
omit [Tb] in
@[simp ↓] theorem caseM_wild (b : DTS) (cs : List Ct) (xs : List PyData) (E : DEnds) (δ : DS) : caseM (.wild b :: cs) xs E δ = b E δ := rfl
omit [Tb] in
@[simp ↓] theorem caseM_seq (ps : List Pt) (b : DTS) (cs : List Ct) (xs : List PyData) (E : DEnds) (δ : DS) : caseM (.seq ps b :: cs) xs E δ = (if xs.length = ps.length then eachM ps xs fun o => match o with
      | none => caseM cs xs E δ
      | some bs => b E (setsD δ bs)
    else caseM cs xs E δ) := rfl
omit [Tb] in
@[simp ↓] theorem setsD_nil (δ : DS) : setsD δ [] = δ := rfl
omit [Tb] in
@[simp ↓] theorem setsD_cons (δ : DS) (i : Nat) (x : PyData) (r : List (Nat × PyData)) : setsD δ ((i, x) :: r) = setsD (δ.set i (.d x)) r := rfl
inductive PtOk (X : Cx) : List Pattern → List Pt → Prop
  | nil : PtOk X [] []
  | val {e : Expr} {v : V} {d : PyData} {pos : Pos} {ps : List Pattern} {qs : List Pt} (h : PE X e (tC v)) (hv : ∀ K G, Dn K G v d) (t : PtOk X ps qs) : PtOk X (.MatchValue e pos :: ps) (.val d :: qs)
  | cap {x : Str} {i : Nat} {pos : Pos} {ps : List Pattern} {qs : List Pt} (hi : X.N[i]? = some x) (hx : Loc X.env.scope x) (hf : X.fn x = true ∨ X.env.scope.names.lookup x = some .local) (t : PtOk X ps qs) : PtOk X (.MatchAs none (some x) pos :: ps) (.cap i :: qs)
theorem PtOk.len {X : Cx} {ps : List Pattern} {qs : List Pt} (h : PtOk X ps qs) : ps.length = qs.length := by
  induction h with
  | nil => rfl
  | val _ _ _ ih => simp [ih]
  | cap _ _ _ _ ih => simp [ih]
inductive BsOk (X : Cx) (G : Hp) : List (Str × Value) → List (Nat × PyData) → Prop
  | nil : BsOk X G [] []
  | cons {x : Str} {u : Value} {v : V} {i : Nat} {d : PyData} {bs : List (Str × Value)} {os : List (Nat × PyData)} (hi : X.N[i]? = some x) (hx : Loc X.env.scope x) (hf : X.fn x = true ∨ X.env.scope.names.lookup x = some .local) (r : RelV v u) (h : Dn X.K G v d) (t : BsOk X G bs os) : BsOk X G ((x, u) :: bs) ((i, d) :: os)
inductive RoOk (X : Cx) (G : Hp) : Option (List (Str × Value)) → Option (List (Nat × PyData)) → Prop
  | none : RoOk X G none none
  | some {bs : List (Str × Value)} {os : List (Nat × PyData)} (h : BsOk X G bs os) : RoOk X G (some bs) (some os)
section
variable {X : Cx}
inductive CsOk (X : Cx) : List MatchCase → List Ct → Prop
  | nil : CsOk X [] []
  | wild {body : List Stmt} {b : DTS} {pos : Pos} {rest : List MatchCase} {ws : List Ct} (hb : JSs X body b) : CsOk X (⟨.MatchAs none none pos, none, body⟩ :: rest) (.wild b :: ws)
  | seq {ps : List Pattern} {qs : List Pt} {pos : Pos} {body : List Stmt} {b : DTS} {rest : List MatchCase} {ws : List Ct} (h : PtOk X ps qs) (hstar : ps.findIdx? (·.isStar) = none) (hwild : (ps.all fun p => p.isWildcard || (p.isStar && p.names.isEmpty)) = false) (hb : JSs X body b) (t : CsOk X rest ws) : CsOk X (⟨.MatchSequence ps pos, none, body⟩ :: rest) (.seq qs b :: ws)
theorem PtOk.str {x : Str} {j : Nat} {p pos : Pos} {ps : List Pattern} {qs : List Pt} (t : PtOk X ps qs) : PtOk X (.MatchValue (.Constant (.str x) j p) pos :: ps) (.val (.str x) :: qs) := .val pe_str (fun _ _ => .str x) t
theorem PtOk.int {x : Int} {j : Nat} {p pos : Pos} {ps : List Pattern} {qs : List Pt} (t : PtOk X ps qs) : PtOk X (.MatchValue (.Constant (.int x) j p) pos :: ps) (.val (.int x) :: qs) := .val pe_int (fun _ _ => .int x) t
end
end DL
namespace DL
open PySem PySem.Spec PyProof.Rows L2
variable [Tb]
end DL
set_option Elab.async false
set_option linter.all false
set_option maxRecDepth 100000
set_option maxHeartbeats 4000000
namespace DL
open PySem PySem.Spec PyProof.Rows L2
variable [Tb]
def wPar4 (i j k l : Nat) (w : DMs) : DTS := fun E δ => w δ fun cs δ1 => ∃ c d e f, cs = [c, d, e, f] ∧ E.nx ((((δ1.set i c).set j d).set k e).set l f)
omit [Tb] in
@[simp ↓] theorem wPar4_ap (i j k l : Nat) (w : DMs) (E : DEnds) (δ : DS) : wPar4 i j k l w E δ = (w δ fun cs δ1 => match cs with
  | [c, d, e, f] => E.nx ((((δ1.set i c).set j d).set k e).set l f)
  | _ => False) := by
  unfold wPar4
  congr 1; funext cs δ1
  match cs with
  | [] => simp
  | [c] => simp
  | [c, d] => simp
  | [c, d, e] => simp
  | [c, d, e, f] => exact propext ⟨fun ⟨c', d', e', f', h0, h⟩ => by cases h0; exact h, fun h => ⟨c, d, e, f, rfl, h⟩⟩
  | c :: d :: e :: f :: g :: r => simp
section
variable {X : Cx} {pos : Pos}
end
end DL
set_option Elab.async false
set_option linter.all false
set_option maxRecDepth 100000
set_option maxHeartbeats 4000000
namespace DL
open PySem PySem.Spec PyProof.Rows L2
variable [Tb]
section
variable {X : Cx} {pos : Pos}
end
end DL
set_option Elab.async false
set_option linter.all false
set_option maxRecDepth 100000
set_option maxHeartbeats 4000000
namespace DL
open PySem PySem.Spec PyProof.Rows L2
variable [Tb]
section
variable {X : Cx}
def pMulW : P2 := fun x y R => match x, y with
  | .tuple xs, .int k => (0 < xs.length ∧ xs.length ≤ 10 ∧ 2 ≤ k ∧ k ≤ 100000) ∧ R (.tuple (List.replicate k.toNat xs).flatten)
  | _, _ => False
omit [Tb] in
@[simp ↓] theorem pMulW_ti (xs : List PyData) (k : Int) (R : PyData → Prop) : pMulW (.tuple xs) (.int k) R = ((0 < xs.length ∧ xs.length ≤ 10 ∧ 2 ≤ k ∧ k ≤ 100000) ∧ R (.tuple (List.replicate k.toNat xs).flatten)) := rfl
end
end DL
set_option Elab.async false
set_option linter.all false
set_option maxRecDepth 100000
set_option maxHeartbeats 4000000
namespace DL
open PySem PySem.Spec PyProof.Rows L2
variable [Tb]
section
variable {X : Cx} {nm : Option Str} {e : Expr} {kws : List Keyword} {kpos : Pos}
end
/-- in the parameters' order -/
def permO {α : Type} (z : α) (ix : List Nat) (os : List α) : List α := ix.map fun i => os.getD i z
def KB0 (K : PySem.W.Frag) (fd : FuncData) (ps ks : List Str) (ix : List Nat) : Prop :=
  ∀ (s : Shared) (ws : List Value), K.In s.heap → ws.length = ks.length → BindsTo s fd ⟨[], ks.zip ws⟩ (ps.zip (permO Value.none ix ws))
theorem KB0.of {K : PySem.W.Frag} {fd : FuncData} {ps ks : List Str} {ix : List Nat} (h : ∀ ws : List Value, ws.length = ks.length → bindArgs fd ⟨[], ks.zip ws⟩ = pure (ps.zip (permO Value.none ix ws))) : KB0 K fd ps ks ix := fun s ws _ hl => .of_eq (h ws hl)
theorem Fun.kb {K : PySem.W.Frag} {x qual : Str} {st : Stmt} {f : Addr} {fd : FuncData} {ps ks : List Str} {ix : List Nat} (F : Fun K x qual st f fd)
    (h : ∀ (kV doc pm : Value) (an : Option Addr) (cdv ct : Value) (ws : List Value), ws.length = ks.length → bindArgs (PySem.W.fnOf x qual (defArgs st) (defBody st) (defScope st) .none kV doc pm an cdv ct) ⟨[], ks.zip ws⟩ = pure (ps.zip (permO Value.none ix ws))) : KB0 K fd ps ks ix := by
  obtain ⟨oc, od, kV, doc, pm, an, cdv, ct, osl, rfl, lk, hcd⟩ := F.ex
  exact .of (h kV doc pm an cdv ct)
def wCallK (n : Nat) (ix : List Nat) (sp : DSp) (w : DA) : DE := fun δ R => w δ fun os δ1 => lkM [] os δ1 fun os' δ2 => (os'.length = n ∧ ∀ i ∈ ix, i < n) ∧ (slotsOf (permO (.d .none) ix os')).Nodup ∧ sp ((permO (.d .none) ix os').map (cellOf δ2)) fun x cs => R (.d x) (putBack (permO (.d .none) ix os') cs δ2)
theorem getD_some {α : Type} {l : List α} {i : Nat} (h : i < l.length) (z : α) : l[i]? = some (l.getD i z) := by
  rw [List.getD_eq_getElem?_getD, List.getElem?_eq_getElem h]; rfl
section
variable {X : Cx} {CX : CXT} {k : Nat} {f : Addr} {fd : FuncData} {ps ks : List Str} {x : Str} {p pos : Pos} {kws : List Keyword} {ix : List Nat}
end
omit [Tb] in
@[simp ↓] theorem wCallK_ap (n : Nat) (ix : List Nat) (sp : DSp) (w : DA) (δ : DS) (R : Opd → DS → Prop) : wCallK n ix sp w δ R = (w δ fun os δ1 => lkM [] os δ1 fun os' δ2 => (os'.length = n ∧ ∀ i ∈ ix, i < n) ∧ (slotsOf (permO (.d .none) ix os')).Nodup ∧ ask sp ((permO (.d .none) ix os').map (cellOf δ2)) (fun x cs => R (.d x) (putBack (permO (.d .none) ix os') cs δ2)) .mk) := rfl
omit [Tb] in
@[simp ↓] theorem permO_nil {α : Type} (z : α) (os : List α) : permO z [] os = [] := rfl
omit [Tb] in
@[simp ↓] theorem permO_cons {α : Type} (z : α) (i : Nat) (ix : List Nat) (os : List α) : permO z (i :: ix) os = os.getD i z :: permO z ix os := rfl
end DL
set_option Elab.async false
set_option linter.all false
set_option maxRecDepth 100000
set_option maxHeartbeats 4000000
namespace DL
open PySem PySem.Spec PyProof.Rows L2
variable [Tb]
abbrev KVs := List (List Int × PyData)
def valD (kvs : KVs) (k : List Int) : Option PyData := (kvs.find? fun p => decide (p.1 = k)).map (·.2)
def putD (kvs : KVs) (k : List Int) (x : PyData) : KVs := if (kvs.any fun p => decide (p.1 = k)) = true then kvs.map (fun p => if p.1 = k then (p.1, x) else p) else kvs ++ [(k, x)]
theorem keyI_inj : ∀ {a b : List Int}, keyI a = keyI b → a = b
  | [], [], _ => rfl
  | [], _ :: _, h => by simp [keyI] at h
  | _ :: _, [], h => by simp [keyI] at h
  | x :: a, y :: b, h => by
    have h : (Sum.inl x : Key) :: keyI a = (Sum.inl y : Key) :: keyI b := h
    obtain ⟨h1, h2⟩ := List.cons.inj h
    rw [keyI_inj h2, Sum.inl.inj h1]
section
variable {K : PySem.W.Frag} {G : Hp}
theorem DnK.nil : DnK K G [] [] := ⟨rfl, .nil⟩
theorem DnK.cons {w : List Key × V} {ws : List (List Key × V)} {p : List Int × PyData} {kvs : KVs} (h1 : w.1 = keyI p.1) (h2 : Dn K G w.2 p.2) (t : DnK K G ws kvs) : DnK K G (w :: ws) (p :: kvs) := ⟨by rw [List.map_cons, List.map_cons, h1, t.1], .cons h2 t.2⟩
theorem DnK.inv {ws : List (List Key × V)} {p : List Int × PyData} {kvs : KVs} (h : DnK K G ws (p :: kvs)) : ∃ w ws', ws = w :: ws' ∧ w.1 = keyI p.1 ∧ Dn K G w.2 p.2 ∧ DnK K G ws' kvs := by
  obtain ⟨h1, h2⟩ := h
  cases ws with
  | nil => simp at h1
  | cons w ws =>
    rw [List.map_cons, List.map_cons] at h1
    obtain ⟨a, b⟩ := List.cons.inj h1
    cases h2 with
    | cons c d => exact ⟨w, ws, rfl, a, c, b, d⟩
theorem DnK.inv0 {ws : List (List Key × V)} (h : DnK K G ws []) : ws = [] := by
  have := h.1
  cases ws with
  | nil => rfl
  | cons w ws => simp at this
theorem DnK.len : ∀ {kvs : KVs} {ws : List (List Key × V)}, DnK K G ws kvs → ws.length = kvs.length
  | [], ws, h => by rw [h.inv0]; rfl
  | p :: kvs, ws, h => by
    obtain ⟨w, ws', rfl, _, _, t⟩ := h.inv
    rw [List.length_cons, List.length_cons, t.len]
theorem DnK.mono {G' : Hp} {kvs : KVs} {ws : List (List Key × V)} (h : DnK K G ws kvs) (s : Same G G') : DnK K G' ws kvs := ⟨h.1, h.2.mono s⟩
theorem DnK.val (k : List Int) : ∀ {kvs : KVs} {ws : List (List Key × V)}, DnK K G ws kvs → (valD kvs k = none ∧ valV ws (keyI k) = none) ∨ ∃ x v, valD kvs k = some x ∧ valV ws (keyI k) = some v ∧ Dn K G v x
  | [], ws, h => by rw [h.inv0]; exact .inl ⟨rfl, rfl⟩
  | p :: kvs, ws, h => by
    obtain ⟨w, ws', rfl, e, d, t⟩ := h.inv
    by_cases q : p.1 = k
    · refine .inr ⟨p.2, w.2, by simp [valD, q], ?_, d⟩
      exact valV_pos (by rw [e, q])
    · have q2 : ¬ w.1 = keyI k := fun z => q (keyI_inj (e.symm.trans z))
      have v1 : valD (p :: kvs) k = valD kvs k := by simp [valD, q]
      rw [v1, valV_neg q2]
      exact t.val k
theorem DnK.snoc {k : List Int} {v : V} {x : PyData} (d : Dn K G v x) : ∀ {kvs : KVs} {ws : List (List Key × V)}, DnK K G ws kvs → DnK K G (ws ++ [(keyI k, v)]) (kvs ++ [(k, x)])
  | [], ws, h => by rw [h.inv0]; exact .cons rfl d .nil
  | p :: kvs, ws, h => by
    obtain ⟨w, ws', rfl, e, d', t⟩ := h.inv
    exact .cons e d' (t.snoc d)
theorem DnK.repl {k : List Int} {v : V} {x : PyData} (d : Dn K G v x) : ∀ {kvs : KVs} {ws : List (List Key × V)}, DnK K G ws kvs → DnK K G (ws.map fun w => if w.1 = keyI k then (w.1, v) else w) (kvs.map fun p => if p.1 = k then (p.1, x) else p)
  | [], ws, h => by rw [h.inv0]; exact .nil
  | p :: kvs, ws, h => by
    obtain ⟨w, ws', rfl, e, d', t⟩ := h.inv
    rw [List.map_cons, List.map_cons]
    refine .cons ?_ ?_ (t.repl d)
    · by_cases q : p.1 = k
      · rw [if_pos (by rw [e, q]), if_pos q]; exact e
      · rw [if_neg fun z => q (keyI_inj (e.symm.trans z)), if_neg q]; exact e
    · by_cases q : p.1 = k
      · rw [if_pos (by rw [e, q]), if_pos q]; exact d
      · rw [if_neg fun z => q (keyI_inj (e.symm.trans z)), if_neg q]; exact d'
theorem DnK.any (k : List Int) : ∀ {kvs : KVs} {ws : List (List Key × V)}, DnK K G ws kvs → (ws.any fun w => decide (w.1 = keyI k)) = kvs.any fun p => decide (p.1 = k)
  | [], ws, h => by rw [h.inv0]; rfl
  | p :: kvs, ws, h => by
    obtain ⟨w, ws', rfl, e, _, t⟩ := h.inv
    rw [List.any_cons, List.any_cons, t.any k]
    congr 1
    rw [decide_eq_decide, e]
    exact ⟨keyI_inj, fun q => by rw [q]⟩
theorem DnK.put {k : List Int} {v : V} {x : PyData} {kvs : KVs} {ws : List (List Key × V)} (h : DnK K G ws kvs) (d : Dn K G v x) : DnK K G (putK ws (keyI k) v) (putD kvs k x) := by
  unfold putK putD
  rw [h.any k]
  split
  · exact h.repl d
  · exact h.snoc d
end
def keyOf (x : PyData) (k : List Int → Prop) (_u : Stop k) : Prop := ∃ ns : List Int, x = .tuple (ns.map PyData.int) ∧ k ns
omit [Tb] in
@[simp ↓] theorem keyOf_t (ns : List Int) (k : List Int → Prop) (u : Stop k) : keyOf (.tuple (ns.map PyData.int)) k u = k ns :=
  propext ⟨fun ⟨ms, e, h⟩ => by rw [map_int_inj (PyData.tuple.inj e)]; exact h, fun h => ⟨ns, rfl, h⟩⟩
def odC (o : Option Cell) (k : Addr → KVs → Prop) (_u : Stop k) : Prop := ∃ a kvs, o = some (.od a kvs) ∧ k a kvs
omit [Tb] in
@[simp ↓] theorem odC_od (a : Addr) (kvs : KVs) (k : Addr → KVs → Prop) (u : Stop k) : odC (some (.od a kvs)) k u = k a kvs :=
  propext ⟨fun ⟨b, ks, e, h⟩ => by cases e; exact h, fun h => ⟨a, kvs, rfl, h⟩⟩
def isOd (δ : DS) (i : Nat) : Prop := ∃ a kvs, δ[i]? = some (.od a kvs)
section
variable {X : Cx} {e f : Expr} {pos pos' px : Pos} {x : Str} {i : Nat}
/-- {} -/
def mD : DM := fun δ R => ∀ a, R (.od a []) δ
def wDIn (i : Nat) (w : DE) : DE := fun δ R => w δ fun o δ1 => use o δ1 fun x => keyOf x (fun k => odC δ1[i]? (fun _ kvs => R (.d (.bool (valD kvs k).isSome)) δ1) .mk) .mk
def wDNotIn (i : Nat) (w : DE) : DE := fun δ R => w δ fun o δ1 => use o δ1 fun x => keyOf x (fun k => odC δ1[i]? (fun _ kvs => R (.d (.bool (!(valD kvs k).isSome))) δ1) .mk) .mk
/-- d[k] -/
def wDGet (i : Nat) (w : DE) : DE := fun δ R => isOd δ i ∧ w δ fun o δ1 => use o δ1 fun x => keyOf x (fun k => odC δ1[i]? (fun _ kvs => onS (valD kvs k) (fun y => R (.d y) δ1) .mk) .mk) .mk
/-- d[k] = v -/
def wDPut (i : Nat) (wk wv : DE) : DTS := fun E δ => isOd δ i ∧ wv δ fun o δ1 => lk o δ1 fun x δ2 => wk δ2 fun o2 δ3 => use o2 δ3 fun y => keyOf y (fun k => odC δ3[i]? (fun a kvs => kvs.length ≤ 1000000 ∧ E.nx (δ3.set i (.od a (putD kvs k x)))) .mk) .mk
end
omit [Tb] in
@[simp ↓] theorem mD_ap (δ : DS) (R : Cell → DS → Prop) : mD δ R = ∀ a, R (.od a []) δ := rfl
omit [Tb] in
@[simp ↓] theorem wDIn_ap (i : Nat) (w : DE) (δ : DS) (R : Opd → DS → Prop) : wDIn i w δ R = (w δ fun o δ1 => use o δ1 fun x => keyOf x (fun k => odC δ1[i]? (fun _ kvs => R (.d (.bool (valD kvs k).isSome)) δ1) .mk) .mk) := rfl
omit [Tb] in
@[simp ↓] theorem wDNotIn_ap (i : Nat) (w : DE) (δ : DS) (R : Opd → DS → Prop) : wDNotIn i w δ R = (w δ fun o δ1 => use o δ1 fun x => keyOf x (fun k => odC δ1[i]? (fun _ kvs => R (.d (.bool (!(valD kvs k).isSome))) δ1) .mk) .mk) := rfl
omit [Tb] in
@[simp ↓] theorem wDGet_ap (i : Nat) (w : DE) (δ : DS) (R : Opd → DS → Prop) : wDGet i w δ R = (isOd δ i ∧ w δ fun o δ1 => use o δ1 fun x => keyOf x (fun k => odC δ1[i]? (fun _ kvs => onS (valD kvs k) (fun y => R (.d y) δ1) .mk) .mk) .mk) := rfl
omit [Tb] in
@[simp ↓] theorem wDPut_ap (i : Nat) (wk wv : DE) (E : DEnds) (δ : DS) : wDPut i wk wv E δ = (isOd δ i ∧ wv δ fun o δ1 => lk o δ1 fun x δ2 => wk δ2 fun o2 δ3 => use o2 δ3 fun y => keyOf y (fun k => odC δ3[i]? (fun a kvs => kvs.length ≤ 1000000 ∧ E.nx (δ3.set i (.od a (putD kvs k x)))) .mk) .mk) := rfl
omit [Tb] in
@[simp ↓] theorem isOd_od (a : Addr) (kvs : KVs) (δ : DS) (i : Nat) (h : δ[i]? = some (.od a kvs)) : isOd δ i = True := eq_true ⟨a, kvs, h⟩
omit [Tb] in
@[simp ↓] theorem varC_od (a : Addr) (kvs : KVs) (i : Nat) (k : Opd → Prop) (u : Stop k) : varC (some (.od a kvs)) i k u = k (.s i) := rfl
omit [Tb] in
@[simp] theorem sameIo_od (a : Addr) (xs : KVs) (cs : List Cell) (e : Cell) (δ : DS) : sameIo (.od a xs :: cs) (e :: δ) = ((∃ ys, e = .od a ys) ∧ sameIo cs δ) := rfl
omit [Tb] in
@[simp] theorem outC_od (a : Addr) (xs : KVs) (cs : List Cell) (e : Cell) (δ : DS) : outC (.od a xs :: cs) (e :: δ) = e :: outC cs δ := rfl
end DL
set_option Elab.async false
set_option linter.all false
set_option maxRecDepth 100000
set_option maxHeartbeats 4000000
namespace DL
open PySem PySem.Spec PyProof.Rows L2
variable [Tb]
def pLtT : P2 := fun x y R => match x, y with
  | .int i, .int j => R (.bool (decide (i < j)))
  | .tuple xs, .tuple ys => (noOL xs = true ∧ noOL ys = true) ∧ W.alike (.tuple xs) (.tuple ys) = true ∧ (PyData.tuple xs).depth ≤ 50 ∧ R (.bool (W.dataLt (.tuple xs) (.tuple ys)))
  | _, _ => False
section
variable {X : Cx}
end
omit [Tb] in
@[simp ↓] theorem pLtT_ii (i j : Int) (R : PyData → Prop) : pLtT (.int i) (.int j) R = R (.bool (decide (i < j))) := rfl
omit [Tb] in
@[simp ↓] theorem pLtT_tt (xs ys : List PyData) (R : PyData → Prop) : pLtT (.tuple xs) (.tuple ys) R = ((noOL xs = true ∧ noOL ys = true) ∧ W.alike (.tuple xs) (.tuple ys) = true ∧ (PyData.tuple xs).depth ≤ 50 ∧ R (.bool (W.dataLt (.tuple xs) (.tuple ys)))) := rfl
end DL
set_option Elab.async false
set_option linter.all false
set_option maxRecDepth 100000
set_option maxHeartbeats 4000000
namespace DL
open PySem PySem.Spec PyProof.Rows L2
variable [Tb]
section
variable {X : Cx} {e f : Expr} {pos pos' px : Pos} {x : Str} {i : Nat}
end
end DL
set_option Elab.async false
set_option linter.all false
set_option maxRecDepth 100000
set_option maxHeartbeats 4000000
namespace DL
open PySem PySem.Spec PyProof.Rows L2
variable [Tb]
section
variable {P : Program} {w : World} {K : PySem.W.Frag} {mg : Str → Option Value} {base : Heap}
end
end DL
set_option Elab.async false
set_option linter.all false
set_option maxRecDepth 100000
set_option maxHeartbeats 4000000
namespace DL
open PySem PySem.Spec PyProof.Rows L2
variable [Tb]
def wAugS (i : Nat) (wi : DE) (c : Int) : DTS := fun E δ => isOl δ i ∧ wi δ fun oj δ1 => use oj δ1 fun j => asI j (fun jn => olC δ1[i]? (fun a xs => 0 ≤ jn ∧ onS xs[jn.toNat]? (fun x => asI x (fun m => E.nx (δ1.set i (.ol a (xs.set jn.toNat (.int (m + c)))))) .mk) .mk) .mk) .mk
omit [Tb] in
@[simp ↓] theorem wAugS_ap (i : Nat) (wi : DE) (c : Int) (E : DEnds) (δ : DS) : wAugS i wi c E δ = (isOl δ i ∧ wi δ fun oj δ1 => use oj δ1 fun j => asI j (fun jn => olC δ1[i]? (fun a xs => 0 ≤ jn ∧ onS xs[jn.toNat]? (fun x => asI x (fun m => E.nx (δ1.set i (.ol a (xs.set jn.toNat (.int (m + c)))))) .mk) .mk) .mk) .mk) := rfl
section
variable {X : Cx} {e : Expr} {pos px p1 p2 : Pos} {x : Str} {i : Nat}
end
end DL
set_option Elab.async false
set_option linter.all false
set_option maxRecDepth 100000
set_option maxHeartbeats 4000000
namespace DL
open PySem PySem.Spec PyProof.Rows L2
variable [Tb]
def pLeT : P2 := fun x y R => match x, y with
  | .int i, .int j => R (.bool (decide (i ≤ j)))
  | .tuple xs, .tuple ys => (noOL xs = true ∧ noOL ys = true) ∧ W.alike (.tuple xs) (.tuple ys) = true ∧ (PyData.tuple xs).depth ≤ 50 ∧ R (.bool (!W.dataLt (.tuple ys) (.tuple xs)))
  | _, _ => False
section
variable {X : Cx}
end
omit [Tb] in
@[simp ↓] theorem pLeT_ii (i j : Int) (R : PyData → Prop) : pLeT (.int i) (.int j) R = R (.bool (decide (i ≤ j))) := rfl
omit [Tb] in
@[simp ↓] theorem pLeT_tt (xs ys : List PyData) (R : PyData → Prop) : pLeT (.tuple xs) (.tuple ys) R = ((noOL xs = true ∧ noOL ys = true) ∧ W.alike (.tuple xs) (.tuple ys) = true ∧ (PyData.tuple xs).depth ≤ 50 ∧ R (.bool (!W.dataLt (.tuple ys) (.tuple xs)))) := rfl
end DL
set_option Elab.async false
set_option linter.all false
set_option maxRecDepth 100000
set_option maxHeartbeats 4000000
namespace DL
open PySem PySem.Spec PyProof.Rows L2
variable [Tb]
def wIfL (t : DT) (la lb : DL) : DL := fun δ R => t δ fun k δ1 => if k = true then la δ1 R else lb δ1 R
omit [Tb] in
@[simp ↓] theorem wIfL_ap (t : DT) (la lb : DL) (δ : DS) (R : List PyData → DS → Prop) : wIfL t la lb δ R = (t δ fun k δ1 => if k = true then la δ1 R else lb δ1 R) := rfl
end DL
set_option Elab.async false
set_option linter.all false
set_option maxRecDepth 100000
set_option maxHeartbeats 4000000
namespace DL
open PySem PySem.Spec PyProof.Rows L2
variable [Tb]
open PySem.SeqAt
open AutoSeq1 (wpAny_loadPart')
open MeetsSeq
def IsD (h : Heap) (a : Addr) : Prop := ∃ o es n, h.get? a = some o ∧ o.cls = .type "dict" ∧ o.data = .dict es n
section
variable {A : Around} {s : Shared} {l b : Addr} {es : Array DictEntry} {its : Array Value} {n m : Nat} {dd de : Option Addr} {sl sm : Array (Option Value)}
abbrev DictAt (h : Heap) (l : Addr) (es : Array DictEntry) (n : Nat) (dd : Option Addr) (sl : Array (Option Value)) : Prop := h.get? l = some { cls := .type "dict", dict := dd, data := .dict es n, slots := sl }
abbrev RowAt (T : String) (h : Heap) (b : Addr) (its : Array Value) (m : Nat) (de : Option Addr) (sm : Array (Option Value)) : Prop := h.get? b = some { cls := .type T, dict := de, data := .seq its m, slots := sm }
theorem away_none : Meets (Builtin.«dict.__eq__» ⟨[.ref l, .none], []⟩) (fun _ R z => DictAt z.heap l es n dd sl ∧ R (.ok (.ret .notImplemented)) z) := by
  refine .of_wp fun prog w A R ⟨hp, gs, dr, tk, os⟩ h => ?_
  have away := F.sub_NoneType_dict
  obtain ⟨at_l, h⟩ := h
  wp_walk using wpAny_loadPart' at_l
  exact ⟨_, rfl, h⟩
theorem away_bool (x : Bool) : Meets (Builtin.«dict.__eq__» ⟨[.ref l, .bool x], []⟩) (fun _ R z => DictAt z.heap l es n dd sl ∧ R (.ok (.ret .notImplemented)) z) := by
  refine .of_wp fun prog w A R ⟨hp, gs, dr, tk, os⟩ h => ?_
  have away := F.sub_bool_dict
  obtain ⟨at_l, h⟩ := h
  wp_walk using wpAny_loadPart' at_l
  exact ⟨_, rfl, h⟩
theorem away_int (x : Int) (u : Tok) : Meets (Builtin.«dict.__eq__» ⟨[.ref l, .int x u], []⟩) (fun _ R z => DictAt z.heap l es n dd sl ∧ R (.ok (.ret .notImplemented)) z) := by
  refine .of_wp fun prog w A R ⟨hp, gs, dr, tk, os⟩ h => ?_
  have away := F.sub_int_dict
  obtain ⟨at_l, h⟩ := h
  wp_walk using wpAny_loadPart' at_l
  exact ⟨_, rfl, h⟩
theorem away_str (x : Str) (u : Tok) : Meets (Builtin.«dict.__eq__» ⟨[.ref l, .str x u], []⟩) (fun _ R z => DictAt z.heap l es n dd sl ∧ R (.ok (.ret .notImplemented)) z) := by
  refine .of_wp fun prog w A R ⟨hp, gs, dr, tk, os⟩ h => ?_
  have away := F.sub_str_dict
  obtain ⟨at_l, h⟩ := h
  wp_walk using wpAny_loadPart' at_l
  exact ⟨_, rfl, h⟩
theorem bool_away (x : Bool) : Meets (Builtin.«int.__eq__» ⟨[.bool x, .ref l], []⟩) (fun _ R z => DictAt z.heap l es n dd sl ∧ R (.ok (.ret .notImplemented)) z) := by
  refine .of_wp fun prog w A R ⟨hp, gs, dr, tk, os⟩ h => ?_
  obtain ⟨at_l, h⟩ := h
  wp_walk using wpAny_loadPart' at_l, wpAny_load at_l
  exact ⟨_, rfl, h⟩
theorem int_away (x : Int) (u : Tok) : Meets (Builtin.«int.__eq__» ⟨[.int x u, .ref l], []⟩) (fun _ R z => DictAt z.heap l es n dd sl ∧ R (.ok (.ret .notImplemented)) z) := by
  refine .of_wp fun prog w A R ⟨hp, gs, dr, tk, os⟩ h => ?_
  obtain ⟨at_l, h⟩ := h
  wp_walk using wpAny_loadPart' at_l, wpAny_load at_l
  exact ⟨_, rfl, h⟩
theorem str_away (x : Str) (u : Tok) : Meets (Builtin.«str.__eq__» ⟨[.str x u, .ref l], []⟩) (fun _ R z => DictAt z.heap l es n dd sl ∧ R (.ok (.ret .notImplemented)) z) := by
  refine .of_wp fun prog w A R ⟨hp, gs, dr, tk, os⟩ h => ?_
  obtain ⟨at_l, h⟩ := h
  wp_walk using wpAny_loadPart' at_l, wpAny_load at_l
  exact ⟨_, rfl, h⟩
theorem away_list : Meets (Builtin.«dict.__eq__» ⟨[.ref l, .ref b], []⟩) (fun _ R z => DictAt z.heap l es n dd sl ∧ RowAt "list" z.heap b its m de sm ∧ R (.ok (.ret .notImplemented)) z) := by
  refine .of_wp fun prog w A R ⟨hp, gs, dr, tk, os⟩ h => ?_
  have away := F.sub_list_dict
  obtain ⟨at_l, at_b, h⟩ := h
  wp_walk using wpAny_loadPart' at_l, wpAny_loadPart' at_b
  exact ⟨_, rfl, h⟩
theorem list_away : Meets (Builtin.«list.__eq__» ⟨[.ref b, .ref l], []⟩) (fun _ R z => DictAt z.heap l es n dd sl ∧ RowAt "list" z.heap b its m de sm ∧ R (.ok (.ret .notImplemented)) z) := by
  refine .of_wp fun prog w A R ⟨hp, gs, dr, tk, os⟩ h => ?_
  have away := F.sub_dict_list
  obtain ⟨at_l, at_b, h⟩ := h
  wp_walk using wpAny_loadPart' at_b, wpAny_loadPart' at_l
  exact ⟨_, rfl, h⟩
theorem away_tuple : Meets (Builtin.«dict.__eq__» ⟨[.ref l, .ref b], []⟩) (fun _ R z => DictAt z.heap l es n dd sl ∧ RowAt "tuple" z.heap b its m de sm ∧ R (.ok (.ret .notImplemented)) z) := by
  refine .of_wp fun prog w A R ⟨hp, gs, dr, tk, os⟩ h => ?_
  have away := F.sub_tuple_dict
  obtain ⟨at_l, at_b, h⟩ := h
  wp_walk using wpAny_loadPart' at_l, wpAny_loadPart' at_b
  exact ⟨_, rfl, h⟩
theorem tuple_away : Meets (Builtin.«tuple.__eq__» ⟨[.ref b, .ref l], []⟩) (fun _ R z => DictAt z.heap l es n dd sl ∧ RowAt "tuple" z.heap b its m de sm ∧ R (.ok (.ret .notImplemented)) z) := by
  refine .of_wp fun prog w A R ⟨hp, gs, dr, tk, os⟩ h => ?_
  have away := F.sub_dict_tuple
  obtain ⟨at_l, at_b, h⟩ := h
  wp_walk using wpAny_loadPart' at_b, wpAny_loadPart' at_l
  exact ⟨_, rfl, h⟩
/-- a thing against a dict, where both classes wave the other away -/
theorem differs {v : Value} {T id : String} (at_l : DictAt s.heap l es n dd sl) (ty : s.TypeIs v T) (ne : (Value.type T != Value.type "dict") = true) (sub : isSubtype (.type "dict") (.type T) = pure false) (slot : Slot T (cmpInfo .Eq).2.1 id) (room : A.units < cLine)
    (mine : ∀ (prog : Program) (w : World) (E Q : Value → Shared → Prop), Q .notImplemented s → wpAny (model prog w) A (call (.builtin id) [v, .ref l]) Q E s)
    (dicts : ∀ (prog : Program) (w : World) (E Q : Value → Shared → Prop), Q .notImplemented s → wpAny (model prog w) A (call (.builtin "dict.__eq__") [.ref l, v]) Q E s)
    (same : ∀ (prog : Program) (w : World) (E : Value → Shared → Prop) (Q : Bool → Shared → Prop), Q false s → wpAny (model prog w) A (isSame v (.ref l)) Q E s) : RcAt A s v (.ref l) false :=
  fun prog w E Q h => by
    exact rc_eq_decline_or (k := false) ty ⟨_, at_l, rfl⟩ ne sub slot F.slot_dict_eq_refl (mine prog w E) (dicts prog w E) (same prog w E) (.inr room) h
/-- what is no reference is not the dict itself -/
theorem differs_flat {v : Value} (flat : v = .none ∨ (∃ x, v = .bool x) ∨ (∃ x u, v = .int x u) ∨ ∃ x u, v = .str x u) (rc : RcAt A s v (.ref l) false) : EqAt A s v (.ref l) false := fun prog w E Q h => by
  have go : wpAny (model prog w) A (richCompare .Eq v (.ref l)) (fun r z => wpAny (model prog w) A (truthOfDropped r) Q E z) E s := rc prog w E _ (wpAny_truthy_bool h)
  delta eqBool
  rcases flat with rfl | ⟨_, rfl⟩ | ⟨_, _, rfl⟩ | ⟨_, _, rfl⟩ <;> exact wpAny_holding (wpAny_ite_split (fun e => absurd (eq_of_beq e) nofun) fun _ => wpAny_bind go)
theorem IsD.at {h : Heap} (d : IsD h l) : ∃ dd es n sl, DictAt h l es n dd sl := by
  obtain ⟨⟨_, dd, _, sl⟩, es, n, at_l, rfl, rfl⟩ := d
  exact ⟨dd, es, n, sl, at_l⟩
theorem dict_says {v : Value} {x : Shared} (at_l : DictAt s.heap l es n dd sl) {prog : Program} {w : World} {E Q : Value → Shared → Prop} {S : PySem.Spec} (own : Meets (Builtin.«dict.__eq__» ⟨[.ref l, v], []⟩) S) (h : S A (wants Q E) s) :
    wpAny (model prog w) A (call (.builtin "dict.__eq__") [.ref l, v]) Q E s :=
  call_meets F.slot_dict_eq_refl ⟨_, at_l, rfl⟩ F.entry_dict_eq (F.args_dict_eq_2 _ _) own h
theorem eq_NoneType_dict (d : IsD s.heap l) (room : A.units < cLine) : EqAt A s .none (.ref l) false := by
  obtain ⟨dd, es, n, sl, at_l⟩ := d.at
  exact differs_flat (.inl rfl) (differs at_l (T := "NoneType") rfl (by decide) F.sub_dict_NoneType F.slot_NoneType_eq room (fun _ _ _ _ q => call_gives F.slot_NoneType_eq rfl F.entry_NoneType_eq (F.args_NoneType_eq_2 _ _) (NoneType___eq___none_ref_0 l) q)
    (fun _ _ _ _ q => dict_says (x := s) at_l away_none ⟨at_l, q⟩) fun _ _ _ _ q => wpAny_of_eq (rfl : isSame .none (.ref l) = pure false) q)
theorem eq_bool_dict (x : Bool) (d : IsD s.heap l) (room : A.units < cLine) : EqAt A s (.bool x) (.ref l) false := by
  obtain ⟨dd, es, n, sl, at_l⟩ := d.at
  exact differs_flat (.inr (.inl ⟨_, rfl⟩)) (differs at_l (T := "bool") rfl (by decide) F.sub_dict_bool F.slot_bool_eq room (fun _ _ _ _ q => call_meets F.slot_bool_eq rfl F.entry_int_eq (F.args_int_eq_2 _ _) (bool_away x) ⟨at_l, q⟩)
    (fun _ _ _ _ q => dict_says (x := s) at_l (away_bool x) ⟨at_l, q⟩) fun _ _ _ _ q => wpAny_of_eq (rfl : isSame (.bool x) (.ref l) = pure false) q)
theorem eq_int_dict (x : Int) (u : Tok) (d : IsD s.heap l) (room : A.units < cLine) : EqAt A s (.int x u) (.ref l) false := by
  obtain ⟨dd, es, n, sl, at_l⟩ := d.at
  exact differs_flat (.inr (.inr (.inl ⟨_, _, rfl⟩))) (differs at_l (typeIs_int s x u) (by decide) F.sub_dict_int F.slot_int_eq room (fun _ _ _ _ q => call_meets F.slot_int_eq (typeIs_int s x u) F.entry_int_eq (F.args_int_eq_2 _ _) (int_away x u) ⟨at_l, q⟩)
    (fun _ _ _ _ q => dict_says (x := s) at_l (away_int x u) ⟨at_l, q⟩) fun _ _ _ _ q => wpAny_of_eq (rfl : isSame (.int x u) (.ref l) = pure false) q)
theorem eq_str_dict (x : Str) (u : Tok) (d : IsD s.heap l) (room : A.units < cLine) : EqAt A s (.str x u) (.ref l) false := by
  obtain ⟨dd, es, n, sl, at_l⟩ := d.at
  exact differs_flat (.inr (.inr (.inr ⟨_, _, rfl⟩))) (differs at_l (typeIs_str s x u) (by decide) F.sub_dict_str F.slot_str_eq room (fun _ _ _ _ q => call_meets F.slot_str_eq (typeIs_str s x u) F.entry_str_eq (F.args_str_eq_2 _ _) (str_away x u) ⟨at_l, q⟩)
    (fun _ _ _ _ q => dict_says (x := s) at_l (away_str x u) ⟨at_l, q⟩) fun _ _ _ _ q => wpAny_of_eq (rfl : isSame (.str x u) (.ref l) = pure false) q)
/-- a row and a dict don't lie in one place -/
theorem elsewhere {T : String} (t : T ≠ "dict") (at_b : RowAt T s.heap b its m de sm) (at_l : DictAt s.heap l es n dd sl) : b ≠ l := by
  rintro rfl
  have e := at_b.symm.trans at_l
  simp only [Option.some.injEq, Obj.mk.injEq, Value.type.injEq] at e
  exact t e.1
theorem eq_list_dict (p : s.heap.IsList b its) (d : IsD s.heap l) (room : A.units < cLine) : EqAt A s (.ref b) (.ref l) false := by
  obtain ⟨dd, es, n, sl, at_l⟩ := d.at
  obtain ⟨⟨_, de, _, sm⟩, at_b, rfl, m, rfl⟩ := p
  have apart := elsewhere (T := "list") (by decide) at_b at_l
  exact .of_refs apart (differs at_l ⟨_, at_b, rfl⟩ (by decide) F.sub_dict_list F.slot_list_eq room (fun _ _ _ _ q => call_meets F.slot_list_eq ⟨_, at_b, rfl⟩ F.entry_list_eq (F.args_list_eq_2 _ _) list_away ⟨at_l, at_b, q⟩)
    (fun _ _ _ _ q => dict_says (x := s) at_l away_list ⟨at_l, at_b, q⟩) fun _ _ _ _ q => wpAny_isSame_ref_other' apart at_b at_l (by simp) q)
theorem eq_tuple_dict (p : s.heap.IsTuple b its) (d : IsD s.heap l) (room : A.units < cLine) : EqAt A s (.ref b) (.ref l) false := by
  obtain ⟨dd, es, n, sl, at_l⟩ := d.at
  obtain ⟨⟨_, de, _, sm⟩, at_b, rfl, m, rfl⟩ := p
  have apart := elsewhere (T := "tuple") (by decide) at_b at_l
  exact .of_refs apart (differs at_l ⟨_, at_b, rfl⟩ (by decide) F.sub_dict_tuple F.slot_tuple_eq room (fun _ _ _ _ q => call_meets F.slot_tuple_eq ⟨_, at_b, rfl⟩ F.entry_tuple_eq (F.args_tuple_eq_2 _ _) tuple_away ⟨at_l, at_b, q⟩)
    (fun _ _ _ _ q => dict_says (x := s) at_l away_tuple ⟨at_l, at_b, q⟩) fun _ _ _ _ q => wpAny_isSame_ref_other' apart at_b at_l (by simp) q)
end
end DL
set_option Elab.async false
set_option linter.all false
set_option maxRecDepth 100000
set_option maxHeartbeats 4000000
namespace DL
open PySem PySem.Spec PyProof.Rows L2
variable [Tb]
open PySem.SeqAt
theorem reads_list {h : Heap} {v : Value} {xs : List PyData} {as : List Addr} (r : Reads h v (.list xs) as) : ∃ a vs bs, v = .ref a ∧ h.IsList a vs ∧ vs.size = xs.length ∧ ReadsAll h vs.toList xs bs := by
  cases r with
  | list at_a cl dt rs => exact ⟨_, _, _, rfl, ⟨_, at_a, cl, _, dt⟩, (Array.length_toList).symm.trans (ReadsAll.length _ _ _ rs), rs⟩
theorem reads_tuple {h : Heap} {v : Value} {xs : List PyData} {as : List Addr} (r : Reads h v (.tuple xs) as) : ∃ a vs bs, v = .ref a ∧ h.IsTuple a vs ∧ vs.size = xs.length ∧ ReadsAll h vs.toList xs bs := by
  cases r with
  | tuple at_a cl dt rs => exact ⟨_, _, _, rfl, ⟨_, at_a, cl, _, dt⟩, (Array.length_toList).symm.trans (ReadsAll.length _ _ _ rs), rs⟩
/-- two things of other kinds, or one of them flat; what the library tells already is left to it -/
theorem eqAt_kinds {A : Around} {s : Shared} {a b : Value} {as bs : List Addr} (da db : PyData) (ra : Reads s.heap a da as) (rb : Reads s.heap b db bs) (lay : da.canLay0 = true) (room : A.units < cLine) (new : ¬ db.canLay0 = true)
    (other : (∀ xs ys, ¬ (da = .list xs ∧ db = .list ys)) ∧ ∀ xs ys, ¬ (da = .tuple xs ∧ db = .tuple ys)) : EqAt A s a b (PyData.eqv da db) := by
  cases rb with
  | none => exact absurd rfl new
  | bool => exact absurd rfl new
  | int => exact absurd rfl new
  | str y u => cases ra with
    | none => exact .none_str y u
    | bool x => exact .bool_str x y u
    | int x t => exact .int_str x t y u
    | str x t => exact .str_str x t y u
    | list h1 h2 h3 => exact .list_str y u ⟨_, h1, h2, _, h3⟩ room
    | tuple h1 h2 h3 => exact .tuple_str y u ⟨_, h1, h2, _, h3⟩ room
    | dict => exact absurd lay Bool.false_ne_true
  | list k1 k2 k3 _ => cases ra with
    | none => exact EqAt.none_list ⟨_, k1, k2, _, k3⟩ room
    | bool x => exact EqAt.bool_list x ⟨_, k1, k2, _, k3⟩ room
    | int x t => exact EqAt.int_list x t ⟨_, k1, k2, _, k3⟩ room
    | str x t => exact EqAt.str_list x t ⟨_, k1, k2, _, k3⟩ room
    | tuple h1 h2 h3 => exact EqAt.tuple_list ⟨_, h1, h2, _, h3⟩ ⟨_, k1, k2, _, k3⟩ room
    | list => exact absurd ⟨rfl, rfl⟩ (other.1 _ _)
    | dict => exact absurd lay Bool.false_ne_true
  | tuple k1 k2 k3 _ => cases ra with
    | none => exact EqAt.none_tuple ⟨_, k1, k2, _, k3⟩ room
    | bool x => exact EqAt.bool_tuple x ⟨_, k1, k2, _, k3⟩ room
    | int x t => exact EqAt.int_tuple x t ⟨_, k1, k2, _, k3⟩ room
    | str x t => exact EqAt.str_tuple x t ⟨_, k1, k2, _, k3⟩ room
    | list h1 h2 h3 => exact EqAt.list_tuple ⟨_, h1, h2, _, h3⟩ ⟨_, k1, k2, _, k3⟩ room
    | tuple => exact absurd ⟨rfl, rfl⟩ (other.2 _ _)
    | dict => exact absurd lay Bool.false_ne_true
  | dict k1 k2 k3 => cases ra with
    | none => exact eq_NoneType_dict ⟨_, _, _, k1, k2, k3⟩ room
    | bool x => exact eq_bool_dict x ⟨_, _, _, k1, k2, k3⟩ room
    | int x t => exact eq_int_dict x t ⟨_, _, _, k1, k2, k3⟩ room
    | str x t => exact eq_str_dict x t ⟨_, _, _, k1, k2, k3⟩ room
    | list h1 h2 h3 => exact eq_list_dict ⟨_, h1, h2, _, h3⟩ ⟨_, _, _, k1, k2, k3⟩ room
    | tuple h1 h2 h3 => exact eq_tuple_dict ⟨_, h1, h2, _, h3⟩ ⟨_, _, _, k1, k2, k3⟩ room
    | dict => exact absurd lay Bool.false_ne_true
/-- the items of two rows, pair by pair -/
def Pairwise2 (A : Around) (s : Shared) (vs us : Array Value) (xs ys : List PyData) : Prop := ∀ j (h1 : j < vs.size) (h2 : j < us.size), EqAt A s vs[j] us[j] (pairEq xs ys j)
theorem eqAt_lists {A : Around} {s : Shared} {l l' : Addr} {vs us : Array Value} {xs ys : List PyData} (apart : l ≠ l') (p : s.heap.IsList l vs) (p' : s.heap.IsList l' us) (n : vs.size = xs.length) (n' : us.size = ys.length) (room : A.units < cLine)
    (each : Pairwise2 A.in1 s vs us xs ys) : EqAt A s (.ref l) (.ref l') (PyData.eqvAll xs ys) := by
  refine EqAt.of_refs apart ?_
  by_cases same : xs.length = ys.length
  · have go := RcAt.lists p p' (n.trans (same.trans n'.symm)) room each
    rwa [n, eqvAll_same_length same] at go
  · rw [eqvAll_other_length same]
    exact RcAt.lists_lengths p p' (by rw [n, n']; simpa using same) room
theorem eqAt_tuples {A : Around} {s : Shared} {l l' : Addr} {vs us : Array Value} {xs ys : List PyData} (apart : l ≠ l') (p : s.heap.IsTuple l vs) (p' : s.heap.IsTuple l' us) (n : vs.size = xs.length) (n' : us.size = ys.length) (room : A.units < cLine)
    (each : Pairwise2 A.in1 s vs us xs ys) : EqAt A s (.ref l) (.ref l') (PyData.eqvAll xs ys) := by
  have go := RcAt.tuples p p' room each
  rw [n, n', eqvAll_eq] at go
  exact EqAt.of_refs apart go
/-- .. and where the library tells all, it tells this -/
theorem eqAt_rest {A : Around} {s : Shared} {a b : Value} {as bs : List Addr} {da db : PyData} (ra : Reads s.heap a da as) (rb : Reads s.heap b db bs) (lay : da.canLay0 = true) (room : A.units + da.depth < cLine)
    (other : (∀ xs ys, ¬ (da = .list xs ∧ db = .list ys)) ∧ ∀ xs ys, ¬ (da = .tuple xs ∧ db = .tuple ys)) : EqAt A s a b (PyData.eqv da db) := by
  by_cases told : db.canLay0 = true
  · exact eqAt_reads da db A s a b as bs ra rb lay told (by omega)
  · exact eqAt_kinds da db ra rb lay (by omega) told other
mutual
theorem eqAt_any : ∀ (da db : PyData) {A : Around} {s : Shared} {a b : Value} {as bs : List Addr}, Reads s.heap a da as → Reads s.heap b db bs → da.canLay0 = true → A.units + da.depth < cLine → EqAt A s a b (PyData.eqv da db)
  | .list xs, db, A, s, a, b, as, bs, ra, rb, lay, room => by
    rcases Classical.em (∃ ys, db = .list ys) with ⟨ys, rfl⟩ | no
    · obtain ⟨l, vs, _, rfl, p, n, rs⟩ := reads_list ra
      obtain ⟨l', us, _, rfl, p', n', rs'⟩ := reads_list rb
      by_cases e : l = l'
      · subst e
        cases Reads.unique (.list xs) (.list ys) _ _ _ lay ra rb
        rw [show PyData.eqv (.list xs) (.list xs) = true from eqvAll_refl xs lay]
        exact EqAt.same _
      · rw [PyData.depth] at room
        exact eqAt_lists e p p' n n' (by omega) fun j h1 h2 => eqAt_anys xs ys rs rs' lay (show A.units + 1 + _ < _ by omega) j h1 h2
    · exact eqAt_rest ra rb lay room ⟨fun _ ys z => no ⟨ys, z.2⟩, fun _ _ z => nomatch z.1⟩
  | .tuple xs, db, A, s, a, b, as, bs, ra, rb, lay, room => by
    rcases Classical.em (∃ ys, db = .tuple ys) with ⟨ys, rfl⟩ | no
    · obtain ⟨l, vs, _, rfl, p, n, rs⟩ := reads_tuple ra
      obtain ⟨l', us, _, rfl, p', n', rs'⟩ := reads_tuple rb
      by_cases e : l = l'
      · subst e
        cases Reads.unique (.tuple xs) (.tuple ys) _ _ _ lay ra rb
        rw [show PyData.eqv (.tuple xs) (.tuple xs) = true from eqvAll_refl xs lay]
        exact EqAt.same _
      · rw [PyData.depth] at room
        exact eqAt_tuples e p p' n n' (by omega) fun j h1 h2 => eqAt_anys xs ys rs rs' lay (show A.units + 1 + _ < _ by omega) j h1 h2
    · exact eqAt_rest ra rb lay room ⟨(fun _ _ z => nomatch z.1), fun _ ys z => no ⟨ys, z.2⟩⟩
  | .none, _, _, _, _, _, _, _, ra, rb, lay, room => eqAt_rest ra rb lay room ⟨(fun _ _ z => nomatch z.1), (fun _ _ z => nomatch z.1)⟩
  | .bool _, _, _, _, _, _, _, _, ra, rb, lay, room => eqAt_rest ra rb lay room ⟨(fun _ _ z => nomatch z.1), (fun _ _ z => nomatch z.1)⟩
  | .int _, _, _, _, _, _, _, _, ra, rb, lay, room => eqAt_rest ra rb lay room ⟨(fun _ _ z => nomatch z.1), (fun _ _ z => nomatch z.1)⟩
  | .str _, _, _, _, _, _, _, _, ra, rb, lay, room => eqAt_rest ra rb lay room ⟨(fun _ _ z => nomatch z.1), (fun _ _ z => nomatch z.1)⟩
  | .dict _, _, _, _, _, _, _, _, _, _, lay, _ => nomatch lay
theorem eqAt_anys : ∀ (xs ys : List PyData) {A : Around} {s : Shared} {vs us : List Value} {as bs : List Addr}, ReadsAll s.heap vs xs as → ReadsAll s.heap us ys bs → PyData.canLayAll0 xs = true → A.units + PyData.depthAll xs < cLine →
    ∀ j (h1 : j < vs.length) (h2 : j < us.length), EqAt A s vs[j] us[j] (pairEq xs ys j)
  | [], _, _, _, _, _, _, _, .nil, _, _, _, _, h1, _ => nomatch h1
  | _ :: _, [], _, _, _, _, _, _, _, .nil, _, _, _, _, h2 => nomatch h2
  | x :: xs, y :: ys, _, _, _, _, _, _, .cons r rs, .cons r' rs', lay, room, j, h1, h2 => by
    rw [PyData.canLayAll0, Bool.and_eq_true] at lay
    rw [PyData.depthAll] at room
    cases j with
    | zero => exact eqAt_any x y r r' lay.1 (by omega)
    | succ j => exact eqAt_anys xs ys rs rs' lay.2 (by omega) j (Nat.lt_of_succ_lt_succ h1) (Nat.lt_of_succ_lt_succ h2)
end
/-- x in y, whatever x is -/
def pInX : P2 := fun x y R => match y with
  | .list ds => noO x = true ∧ SeqAt.shaped (.list ds) = true ∧ R (.bool (ds.any fun z => PyData.eqv z x))
  | .tuple ds => noO x = true ∧ SeqAt.shaped (.tuple ds) = true ∧ R (.bool (ds.any fun z => PyData.eqv z x))
  | _ => False
/-- x == () of a tuple, x == [] of a list, whatever lies within -/
def pEqE : P2 := fun x y R => match x, y with
  | .tuple xs, .tuple [] => noOL xs = true ∧ R (.bool xs.isEmpty)
  | .list xs, .list [] => noOL xs = true ∧ R (.bool xs.isEmpty)
  | _, _ => False
def pNeE : P2 := fun x y R => match x, y with
  | .tuple xs, .tuple [] => noOL xs = true ∧ R (.bool (!xs.isEmpty))
  | .list xs, .list [] => noOL xs = true ∧ R (.bool (!xs.isEmpty))
  | _, _ => False
omit [Tb] in
@[simp ↓] theorem pEqE_t (xs : List PyData) (R : PyData → Prop) : pEqE (.tuple xs) (.tuple []) R = (noOL xs = true ∧ R (.bool xs.isEmpty)) := rfl
omit [Tb] in
@[simp ↓] theorem pEqE_l (xs : List PyData) (R : PyData → Prop) : pEqE (.list xs) (.list []) R = (noOL xs = true ∧ R (.bool xs.isEmpty)) := rfl
omit [Tb] in
@[simp ↓] theorem pNeE_t (xs : List PyData) (R : PyData → Prop) : pNeE (.tuple xs) (.tuple []) R = (noOL xs = true ∧ R (.bool (!xs.isEmpty))) := rfl
omit [Tb] in
@[simp ↓] theorem pNeE_l (xs : List PyData) (R : PyData → Prop) : pNeE (.list xs) (.list []) R = (noOL xs = true ∧ R (.bool (!xs.isEmpty))) := rfl
omit [Tb] in
@[simp ↓] theorem pInX_l (x : PyData) (ds : List PyData) (R : PyData → Prop) : pInX x (.list ds) R = (noO x = true ∧ SeqAt.shaped (.list ds) = true ∧ R (.bool (ds.any fun z => PyData.eqv z x))) := rfl
omit [Tb] in
@[simp ↓] theorem pInX_t (x : PyData) (ds : List PyData) (R : PyData → Prop) : pInX x (.tuple ds) R = (noO x = true ∧ SeqAt.shaped (.tuple ds) = true ∧ R (.bool (ds.any fun z => PyData.eqv z x))) := rfl
section
variable {X : Cx}
end
end DL
set_option Elab.async false
set_option linter.all false
set_option maxRecDepth 100000
set_option maxHeartbeats 4000000
namespace DL
open PySem PySem.Spec PyProof.Rows L2
variable [Tb]
def stC (x : PyData) (k : Str → Prop) : Prop := match x with
  | .str z => k z
  | _ => False
omit [Tb] in
@[simp ↓] theorem stC_s (z : Str) (k : Str → Prop) : stC (.str z) k = k z := rfl
def wUpper (w : DE) : DE := fun δ R => w δ fun o δ1 => use o δ1 fun x => stC x fun z => z.length ≤ 1000000 ∧ R (.d (.str (Txt.upper z))) δ1
omit [Tb] in
@[simp ↓] theorem wUpper_ap (w : DE) (δ : DS) (R : Opd → DS → Prop) : wUpper w δ R = (w δ fun o δ1 => use o δ1 fun x => stC x fun z => z.length ≤ 1000000 ∧ R (.d (.str (Txt.upper z))) δ1) := rfl
section
variable {X : Cx}
end
end DL
set_option Elab.async false
set_option linter.all false
set_option maxRecDepth 100000
set_option maxHeartbeats 4000000
namespace DL
open PySem PySem.Spec PyProof.Rows L2
variable [Tb]
section
variable {X : Cx}
/-- x[:0:-1] of a tuple -/
def rev0D (x : PyData) (k : PyData → Prop) : Prop := match x with
  | .tuple ds => 1 ≤ ds.length ∧ k (.tuple (ds.drop 1).reverse)
  | _ => False
omit [Tb] in
@[simp ↓] theorem rev0D_t (ds : List PyData) (k : PyData → Prop) : rev0D (.tuple ds) k = (1 ≤ ds.length ∧ k (.tuple (ds.drop 1).reverse)) := rfl
def wRev0 (w : DE) : DE := fun δ R => w δ fun o δ1 => use o δ1 fun x => rev0D x fun z => R (.d z) δ1
omit [Tb] in
@[simp ↓] theorem wRev0_ap (w : DE) (δ : DS) (R : Opd → DS → Prop) : wRev0 w δ R = (w δ fun o δ1 => use o δ1 fun x => rev0D x fun z => R (.d z) δ1) := rfl
end
def gTL (r : DTGs) : DTG := fun x δ R => match x with
  | .list xs => r xs δ R
  | _ => False
omit [Tb] in
@[simp ↓] theorem gTL_l (r : DTGs) (xs : List PyData) (δ : DS) (R : DS → Prop) : gTL r (.list xs) δ R = r xs δ R := rfl
section
variable {X : Cx} {pos : Pos}
end
section
variable {X : Cx}
end
end DL
set_option Elab.async false
set_option linter.all false
set_option maxRecDepth 100000
set_option maxHeartbeats 4000000
namespace DL
open PySem PySem.Spec PyProof.Rows L2
variable [Tb]
def strsC (x : PyData) (k : List Str → Prop) (_u : Stop k) : Prop := ∃ ys : List Str, x = .list (ys.map PyData.str) ∧ k ys
theorem strs_one {a b : List Str} (h : a.map PyData.str = b.map PyData.str) : a = b :=
  List.map_inj_right (f := PyData.str) (fun _ _ e => PyData.str.inj e) |>.mp h
omit [Tb] in
@[simp ↓] theorem strsC_l (ys : List Str) (k : List Str → Prop) (u : Stop k) : strsC (.list (ys.map PyData.str)) k u = k ys :=
  propext ⟨fun ⟨_, e, h⟩ => strs_one (PyData.list.inj e) ▸ h, fun h => ⟨ys, rfl, h⟩⟩
def wJoinC (a : Str) (w : DE) : DE := fun δ R => w δ fun o δ1 => use o δ1 fun x => strsC x (fun ys => (ys.map (·.length)).sum + ys.length * a.length ≤ 1000000 ∧ R (.d (.str (Txt.join a ys))) δ1) .mk
omit [Tb] in
@[simp ↓] theorem wJoinC_ap (a : Str) (w : DE) (δ : DS) (R : Opd → DS → Prop) : wJoinC a w δ R = (w δ fun o δ1 => use o δ1 fun x => strsC x (fun ys => (ys.map (·.length)).sum + ys.length * a.length ≤ 1000000 ∧ R (.d (.str (Txt.join a ys))) δ1) .mk) := rfl
section
variable {X : Cx}
end
end DL
set_option Elab.async false
set_option linter.all false
set_option maxRecDepth 100000
set_option maxHeartbeats 4000000
namespace DL
open PySem PySem.Spec PyProof.Rows L2
variable [Tb]
def wSplitC (b : Str) (w : DE) : DE := fun δ R => w δ fun o δ1 => use o δ1 fun x => stC x fun z => z.length ≤ 1000000 ∧ R (.d (.list ((Txt.split z b).map PyData.str))) δ1
omit [Tb] in
@[simp ↓] theorem wSplitC_ap (b : Str) (w : DE) (δ : DS) (R : Opd → DS → Prop) : wSplitC b w δ R = (w δ fun o δ1 => use o δ1 fun x => stC x fun z => z.length ≤ 1000000 ∧ R (.d (.list ((Txt.split z b).map PyData.str))) δ1) := rfl
section
variable {X : Cx}
end
end DL
set_option Elab.async false
set_option linter.all false
set_option maxRecDepth 100000
set_option maxHeartbeats 4000000
namespace DL
open PySem PySem.Spec PyProof.Rows L2
variable [Tb]
def signs (z : Str) : List PyData := z.cps.toList.map fun c => .str ⟨#[c]⟩
def iStrD (w : DE) : DL := fun δ R => w δ fun o δ1 => use o δ1 fun x => stC x fun z => z.length ≤ 1000000 ∧ R (signs z) δ1
omit [Tb] in
@[simp ↓] theorem iStrD_ap (w : DE) (δ : DS) (R : List PyData → DS → Prop) : iStrD w δ R = (w δ fun o δ1 => use o δ1 fun x => stC x fun z => z.length ≤ 1000000 ∧ R (signs z) δ1) := rfl
section
variable {X : Cx} {tg : Expr}
end
end DL
set_option Elab.async false
set_option linter.all false
set_option maxRecDepth 100000
set_option maxHeartbeats 4000000
namespace DL
open PySem PySem.Spec PyProof.Rows L2
variable [Tb]
def repS (z : Str) (n : Nat) : Str := ⟨(List.replicate n z.cps).foldl (· ++ ·) #[]⟩
def pMulS : P2 := fun x y R => match x, y with
  | .str z, .int k => (2 ≤ k ∧ k ≤ 1000 ∧ 1 ≤ z.length ∧ z.length ≤ 1000) ∧ R (.str (repS z k.toNat))
  | _, _ => False
omit [Tb] in
@[simp ↓] theorem pMulS_si (z : Str) (k : Int) (R : PyData → Prop) : pMulS (.str z) (.int k) R = ((2 ≤ k ∧ k ≤ 1000 ∧ 1 ≤ z.length ∧ z.length ≤ 1000) ∧ R (.str (repS z k.toNat))) := rfl
section
variable {X : Cx}
end
end DL
set_option Elab.async false
set_option linter.all false
set_option maxRecDepth 100000
set_option maxHeartbeats 4000000
namespace DL
open PySem PySem.Spec PyProof.Rows L2
variable [Tb]
def valI (kvs : List (Int × PyData)) (k : Int) : Option PyData := (kvs.find? fun p => decide (p.1 = k)).map (·.2)
def putI (kvs : List (Int × PyData)) (k : Int) (x : PyData) : List (Int × PyData) := if (kvs.any fun p => decide (p.1 = k)) = true then kvs.map (fun p => if p.1 = k then (p.1, x) else p) else kvs ++ [(k, x)]
def DnI (K : PySem.W.Frag) (G : Hp) (ws : List (Key × V)) (kvs : List (Int × PyData)) : Prop := ws.map (·.1) = kvs.map (fun p => (Sum.inl p.1 : Key)) ∧ DnL K G (ws.map (·.2)) (kvs.map (·.2))
section
variable {K : PySem.W.Frag} {B G G' H H' : Hp} {δ : DS} {σ : L2.St} {a : Addr} {i : Nat}
theorem DnI.nil : DnI K G [] [] := ⟨rfl, .nil⟩
theorem DnI.inv {ws : List (Key × V)} {p : Int × PyData} {kvs : List (Int × PyData)} (h : DnI K G ws (p :: kvs)) : ∃ v ws', ws = (Sum.inl p.1, v) :: ws' ∧ Dn K G v p.2 ∧ DnI K G ws' kvs := by
  obtain ⟨e, t⟩ := h
  match ws, e, t with
  | w :: ws, e, t =>
    rw [List.map_cons, List.map_cons, List.cons.injEq] at e
    rw [List.map_cons, List.map_cons] at t
    cases t with
    | cons d t => exact ⟨w.2, ws, by rw [← e.1], d, e.2, t⟩
theorem DnI.inv0 {ws : List (Key × V)} (h : DnI K G ws []) : ws = [] := by simpa using h.1
theorem DnI.con {p : Int × PyData} {v : V} {ws : List (Key × V)} {kvs : List (Int × PyData)} (d : Dn K G v p.2) (t : DnI K G ws kvs) : DnI K G ((Sum.inl p.1, v) :: ws) (p :: kvs) :=
  ⟨by rw [List.map_cons, List.map_cons, t.1], .cons d t.2⟩
theorem DnI.len : ∀ {kvs : List (Int × PyData)} {ws : List (Key × V)}, DnI K G ws kvs → ws.length = kvs.length
  | [], _, h => by rw [h.inv0]; rfl
  | p :: kvs, _, h => by
    obtain ⟨v, ws', rfl, _, t⟩ := h.inv
    simp [t.len]
theorem DnI.mono {kvs : List (Int × PyData)} {ws : List (Key × V)} (h : DnI K G ws kvs) (s : Same G G') : DnI K G' ws kvs := ⟨h.1, h.2.mono s⟩
theorem DnI.val (k : Int) : ∀ {kvs : List (Int × PyData)} {ws : List (Key × V)}, DnI K G ws kvs → (valI kvs k = none ∧ valV ws (Sum.inl k) = none) ∨ ∃ x v, valI kvs k = some x ∧ valV ws (Sum.inl k) = some v ∧ Dn K G v x
  | [], _, h => by rw [h.inv0]; exact .inl ⟨rfl, rfl⟩
  | p :: kvs, _, h => by
    obtain ⟨v, ws', rfl, d, t⟩ := h.inv
    by_cases q : p.1 = k
    · exact .inr ⟨p.2, v, by simp [valI, q], valV_pos (by simp [q]), d⟩
    · have v1 : valI (p :: kvs) k = valI kvs k := by simp [valI, q]
      have v2 : ¬ (Sum.inl p.1 : Key) = Sum.inl k := fun z => q (Sum.inl.inj z)
      rw [v1, valV_neg v2]
      exact t.val k
theorem DnI.any (k : Int) : ∀ {kvs : List (Int × PyData)} {ws : List (Key × V)}, DnI K G ws kvs → (ws.any fun w => decide (w.1 = (Sum.inl k : Key))) = kvs.any fun p => decide (p.1 = k)
  | [], _, h => by rw [h.inv0]; rfl
  | p :: kvs, _, h => by
    obtain ⟨v, ws', rfl, _, t⟩ := h.inv
    rw [List.any_cons, List.any_cons, t.any k]
    congr 1
    exact decide_eq_decide.mpr ⟨fun z => Sum.inl.inj z, fun z => by rw [z]⟩
theorem DnI.put {k : Int} {v : V} {x : PyData} (d : Dn K G v x) {kvs : List (Int × PyData)} {ws : List (Key × V)} (h : DnI K G ws kvs) : DnI K G (putK ws (Sum.inl k) v) (putI kvs k x) := by
  have snoc : ∀ {kvs : List (Int × PyData)} {ws : List (Key × V)}, DnI K G ws kvs → DnI K G (ws ++ [(Sum.inl k, v)]) (kvs ++ [(k, x)]) := fun {kvs} => by
    induction kvs with
    | nil => intro ws h; rw [h.inv0]; exact DnI.con (p := (k, x)) d .nil
    | cons p kvs ih =>
      intro ws h
      obtain ⟨u, ws', rfl, d', t⟩ := h.inv
      exact DnI.con d' (ih t)
  have repl : ∀ {kvs : List (Int × PyData)} {ws : List (Key × V)}, DnI K G ws kvs → DnI K G (ws.map fun w => if w.1 = (Sum.inl k : Key) then (w.1, v) else w) (kvs.map fun p => if p.1 = k then (p.1, x) else p) := fun {kvs} => by
    induction kvs with
    | nil => intro ws h; rw [h.inv0]; exact .nil
    | cons p kvs ih =>
      intro ws h
      obtain ⟨u, ws', rfl, d', t⟩ := h.inv
      rw [List.map_cons, List.map_cons]
      by_cases q : p.1 = k
      · rw [if_pos q, if_pos (by simp [q])]
        exact DnI.con (p := (p.1, x)) d (ih t)
      · rw [if_neg q, if_neg fun z => q (Sum.inl.inj z)]
        exact DnI.con d' (ih t)
  unfold putK putI
  rw [h.any k]
  split
  · exact repl h
  · exact snoc h
/-- what is one's own in a slot becomes another thing of that kind -/
theorem Rel.putGx {t u : GX} (R : Rel K B G δ σ H) (h : δ[i]? = some (.gx t)) (hh : u.hd = t.hd) (ok : u.Ok K G H') (hs : ∀ b, b ∉ t.fp → H b ≠ none → H' b = H b) (hf : ∀ b ∈ u.fp, b ∈ t.fp ∨ H b = none) : Rel K B G (δ.set i (.gx u)) σ H' := by
  have get : ∀ {j : Nat} {x : Cell}, (δ.set i (.gx u))[j]? = some x → (j = i ∧ x = .gx u) ∨ (j ≠ i ∧ δ[j]? = some x) := fun {j x} e => by
    by_cases hj : j = i
    · subst hj
      rw [List.getElem?_set_self (List.getElem?_eq_some_iff.mp h).1] at e; cases e; exact .inl ⟨rfl, rfl⟩
    · rw [List.getElem?_set_ne (Ne.symm hj)] at e; exact .inr ⟨hj, e⟩
  obtain ⟨ov, hσ, hov, okt⟩ := R.at h
  have out : ∀ {b : Addr} {o : HO}, H b = some o → b ∉ t.fp → H' b = some o := fun {b o} e n => by rw [hs b n (by rw [e]; exact fun z => nomatch z)]; exact e
  have ng : ∀ {b : Addr} {o : HO}, G b = some o → b ∉ t.fp := fun {b o} e m => by rw [(R.fr i _ b h m).1] at e; cases e
  have nb : ∀ {b : Addr} {o : HO}, B b = some o → b ∉ t.fp := fun {b o} e m => by rw [(R.fr i _ b h m).2] at e; cases e
  refine ⟨by simp [R.len], fun b x q => out (R.sg _ _ q) (ng q), fun b x q => out (R.sb _ _ q) (nb q), R.dj, fun j x w e1 e2 => ?_, fun j k x y z e1 e2 m1 m2 => ?_, fun j x z e1 m => ?_, ⟨fun q hq => ?_, R.tt.n⟩⟩
  · rcases get e1 with ⟨rfl, rfl⟩ | ⟨hj, e1⟩
    · rw [hσ] at e2; cases e2
      exact ⟨by rw [hov, hh], ok⟩
    · refine (R.ok j x w e1 e2).stay (Same.refl _) fun b hb => ?_
      obtain ⟨o, e⟩ := R.tr e1 hb
      rw [e]; exact out e fun m => hj (R.ap j i x _ b e1 h hb m)
  · have one : ∀ {j : Nat} {x : Cell}, j ≠ i → δ[j]? = some x → z ∈ x.fp → z ∈ u.fp → False := fun {j x} hj e m m' => by
      rcases hf z m' with q | q
      · exact hj (R.ap j i x _ z e h m q)
      · obtain ⟨o, e⟩ := R.tr e m
        rw [e] at q; cases q
    rcases get e1 with ⟨h1, rfl⟩ | ⟨h1, e3⟩
    · rcases get e2 with ⟨h2, _⟩ | ⟨h2, e4⟩
      · rw [h1, h2]
      · exact (one h2 e4 m2 m1).elim
    · rcases get e2 with ⟨h2, rfl⟩ | ⟨h2, e4⟩
      · exact (one h1 e3 m1 m2).elim
      · exact R.ap j k x y z e3 e4 m1 m2
  · rcases get e1 with ⟨_, rfl⟩ | ⟨hj, e1⟩
    · rcases hf z m with q | q
      · exact R.fr i _ z h q
      · exact ⟨R.freeG q, R.freeB q⟩
    · exact R.fr j x z e1 m
  · obtain ⟨ps, h1, h2, h3⟩ := R.tt.t q hq
    have nt : ∀ {b : Addr} {o : HO}, H b = some o → (∃ ps, o = .tbl ps) ∨ (∃ f, o = .ext f) → b ∉ t.fp := fun {b o} e z m => by
      obtain ⟨o', e', n1, n2⟩ := GX.tr okt m
      rw [e] at e'; cases e'
      rcases z with ⟨_, z⟩ | ⟨_, z⟩
      · exact n1 _ z
      · exact n2 _ z
    refine ⟨ps, out h1 (nt h1 (.inl ⟨_, rfl⟩)), h2, fun pos cv hc => ?_⟩
    obtain ⟨c, e1, e2⟩ := h3 pos cv hc
    exact ⟨c, e1, out e2 (nt e2 (.inr ⟨_, rfl⟩))⟩
/-- what is one's own is locked for good: data from now on -/
theorem Rel.frz {c : Cell} {l : List Addr} {x : PyData} {u : HO} {od : Obj} (R : Rel K B G δ σ H) (h : δ[i]? = some c) (hl : c.fp = a :: l) (ha : H a = some u) (hσ : σ[i]? = some (some (.ref a)))
    (dn : ∀ G', Same G G' → G' a = some (.frz od u) → (∀ b ∈ l, b ≠ a → G' b = H b) → Dn K G' (.ref a) x) : ∃ G', Same G G' ∧ Rel K B G' (δ.set i (.d x)) σ (upd H a (.frz od u)) ∧ Dn K G' (.ref a) x := by
  have get : ∀ {j : Nat} {y : Cell}, (δ.set i (.d x))[j]? = some y → (j = i ∧ y = .d x) ∨ (j ≠ i ∧ δ[j]? = some y) := fun {j y} e => by
    by_cases hj : j = i
    · subst hj
      rw [List.getElem?_set_self (List.getElem?_eq_some_iff.mp h).1] at e; cases e; exact .inl ⟨rfl, rfl⟩
    · rw [List.getElem?_set_ne (Ne.symm hj)] at e; exact .inr ⟨hj, e⟩
  obtain ⟨G', hG⟩ : ∃ G' : Hp, G' = fun b => if b = a then some (.frz od u) else if b ∈ l then H b else G b := ⟨_, rfl⟩
  have ga : G' a = some (.frz od u) := by rw [hG]; simp
  have gl : ∀ b ∈ l, b ≠ a → G' b = H b := fun b hb n => by rw [hG]; simp [n, hb]
  have go : ∀ b, b ∉ c.fp → G' b = G b := fun b n => by
    rw [hl] at n
    have n1 : b ≠ a := fun z => n (by rw [z]; simp)
    have n2 : b ∉ l := fun z => n (by simp [z])
    rw [hG]
    simp [n1, n2]
  have am : a ∈ c.fp := by rw [hl]; simp
  have ng : ∀ {b : Addr} {o : HO}, G b = some o → b ∉ c.fp := fun {b o} e m => by rw [(R.fr i _ b h m).1] at e; cases e
  have nb : ∀ {b : Addr} {o : HO}, B b = some o → b ∉ c.fp := fun {b o} e m => by rw [(R.fr i _ b h m).2] at e; cases e
  have sG : Same G G' := fun b o e => by rw [go b (ng e)]; exact e
  have oc := R.ok i c _ h hσ
  refine ⟨G', sG, ⟨by simp [R.len], fun b o e => ?_, fun b o e => ?_, fun b => ?_, fun j y w e1 e2 => ?_, fun j k y z b e1 e2 m1 m2 => ?_, fun j y b e1 m => ?_, ⟨tabs_upd R.tt.t (cell_te oc am), ⟨R.tt.n.b, fun b o e ps z => ?_⟩⟩⟩, dn G' sG ga gl⟩
  · by_cases hb : b = a
    · subst hb; rw [upd_same]; rw [ga] at e; exact e
    · rw [upd_ne hb]
      by_cases m : b ∈ c.fp
      · rw [hl] at m
        rcases List.mem_cons.mp m with z | z
        · exact absurd z hb
        · rw [gl b z hb] at e; exact e
      · rw [go b m] at e; exact R.sg _ _ e
  · rw [upd_ne (fun z => nb e (by rw [z]; exact am))]; exact R.sb _ _ e
  · by_cases m : b ∈ c.fp
    · exact .inr (R.fr i _ b h m).2
    · rw [go b m]; exact R.dj b
  · rcases get e1 with ⟨rfl, rfl⟩ | ⟨hj, e1⟩
    · rw [hσ] at e2; cases e2; exact ⟨_, rfl, dn G' sG ga gl⟩
    · exact (R.ok j y w e1 e2).stay sG fun b hb => upd_ne fun z => hj (R.ap j i y _ b e1 h hb (by rw [z]; exact am))
  · rcases get e1 with ⟨_, rfl⟩ | ⟨h1, e3⟩
    · cases m1
    · rcases get e2 with ⟨_, rfl⟩ | ⟨h2, e4⟩
      · cases m2
      · exact R.ap j k y z b e3 e4 m1 m2
  · rcases get e1 with ⟨_, rfl⟩ | ⟨hj, e1⟩
    · cases m
    · obtain ⟨f1, f2⟩ := R.fr j y b e1 m
      exact ⟨by rw [go b fun z => hj (R.ap j i y _ b e1 h m z)]; exact f1, f2⟩
  · subst z
    by_cases m : b ∈ c.fp
    · rw [hl] at m
      by_cases hb : b = a
      · subst hb; rw [ga] at e; cases e
      · rcases List.mem_cons.mp m with z | z
        · exact hb z
        · rw [gl b z hb] at e
          exact (cell_te oc (by rw [hl]; exact m) _ e).1 ps rfl
    · rw [go b m] at e; exact R.tt.n.g _ _ e ps rfl
end
end DL
set_option Elab.async false
set_option linter.all false
set_option maxRecDepth 100000
set_option maxHeartbeats 4000000
namespace DL
open PySem PySem.Spec PyProof.Rows L2
variable [Tb]
/-- a name is read; what is one's own there changes no more from now on -/
def fzC : Cell → Option PyData
  | .d x => some x
  | .od _ kvs => some (dTD kvs)
  | .gx (.oi _ kvs) => some (dKD kvs)
  | .gx (.og _ gs) => some (dKD (gs.map fun g => (g.1, .list g.2.2)))
  | _ => none
def onF (c : Option Cell) (k : PyData → Prop) (_u : Stop k) : Prop := ∃ x, c.bind fzC = some x ∧ k x
omit [Tb] in
@[simp ↓] theorem onF_d (x : PyData) (k : PyData → Prop) (u : Stop k) : onF (some (.d x)) k u = k x := propext ⟨fun ⟨y, e, h⟩ => by cases e; exact h, fun h => ⟨x, rfl, h⟩⟩
omit [Tb] in
@[simp ↓] theorem onF_od (a : Addr) (kvs : List (List Int × PyData)) (k : PyData → Prop) (u : Stop k) : onF (some (.od a kvs)) k u = k (dTD kvs) := propext ⟨fun ⟨y, e, h⟩ => by cases e; exact h, fun h => ⟨_, rfl, h⟩⟩
omit [Tb] in
@[simp ↓] theorem onF_oi (a : Addr) (kvs : List (Int × PyData)) (k : PyData → Prop) (u : Stop k) : onF (some (.gx (.oi a kvs))) k u = k (dKD kvs) := propext ⟨fun ⟨y, e, h⟩ => by cases e; exact h, fun h => ⟨_, rfl, h⟩⟩
omit [Tb] in
@[simp ↓] theorem onF_og (a : Addr) (gs : List (Int × Addr × List PyData)) (k : PyData → Prop) (u : Stop k) : onF (some (.gx (.og a gs))) k u = k (dKD (gs.map fun g => (g.1, .list g.2.2))) := propext ⟨fun ⟨y, e, h⟩ => by cases e; exact h, fun h => ⟨_, rfl, h⟩⟩
def wVarF (i : Nat) : DE := fun δ R => onF δ[i]? (fun x => R (.d x) (δ.set i (.d x))) .mk
omit [Tb] in
@[simp ↓] theorem wVarF_ap (i : Nat) (δ : DS) (R : Opd → DS → Prop) : wVarF i δ R = onF δ[i]? (fun x => R (.d x) (δ.set i (.d x))) .mk := rfl
section
variable {X : Cx} {e f : Expr} {pos px pos' : Pos} {x : Str} {i : Nat}
end
omit [Tb] in
theorem dKD_inj {kvs kws : List (Int × PyData)} (h : dKD kvs = dKD kws) : kvs = kws := by
  replace h := (List.cons.inj (PyData.dict.inj h)).2
  induction kvs generalizing kws with
  | nil => cases kws with
    | nil => rfl
    | cons q qs => cases h
  | cons p ps ih => cases kws with
    | nil => cases h
    | cons q qs =>
      rw [List.map_cons, List.map_cons] at h
      obtain ⟨h1, h2⟩ := List.cons.inj h
      have e1 := PyData.int.inj (Prod.mk.inj h1).1
      have e2 := (Prod.mk.inj h1).2
      rw [ih h2, show p = q from Prod.ext e1 e2]
def dkC (c : Option Cell) (k : List (Int × PyData) → Prop) (_u : Stop k) : Prop := ∃ kvs, ((∃ a, c = some (.gx (.oi a kvs))) ∨ c = some (.d (dKD kvs))) ∧ k kvs
omit [Tb] in
@[simp ↓] theorem dkC_oi (a : Addr) (kvs : List (Int × PyData)) (k : List (Int × PyData) → Prop) (u : Stop k) : dkC (some (.gx (.oi a kvs))) k u = k kvs :=
  propext ⟨fun ⟨ks, e, h⟩ => by rcases e with ⟨_, e⟩ | e <;> cases e; exact h, fun h => ⟨kvs, .inl ⟨a, rfl⟩, h⟩⟩
omit [Tb] in
@[simp ↓] theorem dkC_d (kvs : List (Int × PyData)) (k : List (Int × PyData) → Prop) (u : Stop k) : dkC (some (.d (dKD kvs))) k u = k kvs :=
  propext ⟨fun ⟨ks, e, h⟩ => by
    rcases e with ⟨_, e⟩ | e
    · cases e
    · rw [dKD_inj (Cell.d.inj (Option.some.inj e))]; exact h, fun h => ⟨kvs, .inr rfl, h⟩⟩
def isDk (δ : DS) (i : Nat) : Prop := ∃ kvs, (∃ a, δ[i]? = some (.gx (.oi a kvs))) ∨ δ[i]? = some (.d (dKD kvs))
omit [Tb] in
@[simp ↓] theorem isDk_oi (a : Addr) (kvs : List (Int × PyData)) (δ : DS) (i : Nat) (h : δ[i]? = some (.gx (.oi a kvs))) : isDk δ i = True := eq_true ⟨kvs, .inl ⟨a, h⟩⟩
omit [Tb] in
@[simp ↓] theorem isDk_d (kvs : List (Int × PyData)) (δ : DS) (i : Nat) (h : δ[i]? = some (.d (dKD kvs))) : isDk δ i = True := eq_true ⟨kvs, .inr h⟩
omit [Tb] in
@[simp ↓] theorem varC_gx (t : GX) (i : Nat) (k : Opd → Prop) (u : Stop k) : varC (some (.gx t)) i k u = k (.s i) := rfl
omit [Tb] in
@[simp] theorem sameIo_gx (t : GX) (cs : List Cell) (e : Cell) (δ : DS) : sameIo (.gx t :: cs) (e :: δ) = ((∃ u, e = .gx u ∧ u.hd = t.hd) ∧ sameIo cs δ) := rfl
omit [Tb] in
@[simp] theorem outC_gx (t : GX) (cs : List Cell) (e : Cell) (δ : DS) : outC (.gx t :: cs) (e :: δ) = e :: outC cs δ := rfl
omit [Tb] in
@[simp ↓] theorem hd_oi (a : Addr) (kvs : List (Int × PyData)) : (GX.oi a kvs).hd = a := rfl
omit [Tb] in
@[simp ↓] theorem hd_og (a : Addr) (gs : List (Int × Addr × List PyData)) : (GX.og a gs).hd = a := rfl
omit [Tb] in
@[simp ↓] theorem hd_bu (a l : Addr) (n f : Str) (xs : List PyData) : (GX.bu a l n f xs).hd = a := rfl
omit [Tb] in
@[simp ↓] theorem hd_b0 (a : Addr) (n : Str) : (GX.b0 a n).hd = a := rfl
section
variable {K : PySem.W.Frag} {B G H : Hp} {δ : DS} {σ : L2.St} {i : Nat} {kvs : List (Int × PyData)}
end
end DL
set_option Elab.async false
set_option linter.all false
set_option maxRecDepth 100000
set_option maxHeartbeats 4000000
namespace DL
open PySem PySem.Spec PyProof.Rows L2
variable [Tb]
def wIIn (i : Nat) (w : DE) : DE := fun δ R => w δ fun o δ1 => use o δ1 fun x => asI x (fun k => dkC δ1[i]? (fun kvs => R (.d (.bool (valI kvs k).isSome)) δ1) .mk) .mk
def wINotIn (i : Nat) (w : DE) : DE := fun δ R => w δ fun o δ1 => use o δ1 fun x => asI x (fun k => dkC δ1[i]? (fun kvs => R (.d (.bool (!(valI kvs k).isSome))) δ1) .mk) .mk
def wIGet (i : Nat) (w : DE) : DE := fun δ R => isDk δ i ∧ w δ fun o δ1 => use o δ1 fun x => asI x (fun k => dkC δ1[i]? (fun kvs => onS (valI kvs k) (fun y => R (.d y) δ1) .mk) .mk) .mk
def wIGetC (i : Nat) (w u : DE) : DE := fun δ R => isDk δ i ∧ w δ fun o δ1 => u δ1 fun o2 δ2 => use o δ2 fun x => asI x (fun k => lk o2 δ2 fun y δ3 => dkC δ3[i]? (fun kvs => R (.d ((valI kvs k).getD y)) δ3) .mk) .mk
def oiC (c : Option Cell) (k : Addr → List (Int × PyData) → Prop) (_u : Stop k) : Prop := ∃ a kvs, c = some (.gx (.oi a kvs)) ∧ k a kvs
def isOi (δ : DS) (i : Nat) : Prop := ∃ a kvs, δ[i]? = some (.gx (.oi a kvs))
def wIPut (i : Nat) (wk wv : DE) : DTS := fun E δ => isOi δ i ∧ wv δ fun o δ1 => lk o δ1 fun x δ2 => wk δ2 fun o2 δ3 => use o2 δ3 fun y => asI y (fun k => oiC δ3[i]? (fun a kvs => kvs.length ≤ 2000000 ∧ E.nx (δ3.set i (.gx (.oi a (putI kvs k x))))) .mk) .mk
/-- {}, {k: v} -/
def mDI : DM := fun δ R => ∀ a, R (.gx (.oi a [])) δ
def mDG : DM := fun δ R => ∀ a, R (.gx (.og a [])) δ
def mDI1 (wk wv : DE) : DM := fun δ R => wk δ fun o δ1 => use o δ1 fun x => asI x (fun k => wv δ1 fun o2 δ2 => lk o2 δ2 fun y δ3 => ∀ a, R (.gx (.oi a [(k, y)])) δ3) .mk
omit [Tb] in
@[simp ↓] theorem wIIn_ap (i : Nat) (w : DE) (δ : DS) (R : Opd → DS → Prop) : wIIn i w δ R = (w δ fun o δ1 => use o δ1 fun x => asI x (fun k => dkC δ1[i]? (fun kvs => R (.d (.bool (valI kvs k).isSome)) δ1) .mk) .mk) := rfl
omit [Tb] in
@[simp ↓] theorem wINotIn_ap (i : Nat) (w : DE) (δ : DS) (R : Opd → DS → Prop) : wINotIn i w δ R = (w δ fun o δ1 => use o δ1 fun x => asI x (fun k => dkC δ1[i]? (fun kvs => R (.d (.bool (!(valI kvs k).isSome))) δ1) .mk) .mk) := rfl
omit [Tb] in
@[simp ↓] theorem wIGet_ap (i : Nat) (w : DE) (δ : DS) (R : Opd → DS → Prop) : wIGet i w δ R = (isDk δ i ∧ w δ fun o δ1 => use o δ1 fun x => asI x (fun k => dkC δ1[i]? (fun kvs => onS (valI kvs k) (fun y => R (.d y) δ1) .mk) .mk) .mk) := rfl
omit [Tb] in
@[simp ↓] theorem wIGetC_ap (i : Nat) (w u : DE) (δ : DS) (R : Opd → DS → Prop) : wIGetC i w u δ R = (isDk δ i ∧ w δ fun o δ1 => u δ1 fun o2 δ2 => use o δ2 fun x => asI x (fun k => lk o2 δ2 fun y δ3 => dkC δ3[i]? (fun kvs => R (.d ((valI kvs k).getD y)) δ3) .mk) .mk) := rfl
omit [Tb] in
@[simp ↓] theorem wIPut_ap (i : Nat) (wk wv : DE) (E : DEnds) (δ : DS) : wIPut i wk wv E δ = (isOi δ i ∧ wv δ fun o δ1 => lk o δ1 fun x δ2 => wk δ2 fun o2 δ3 => use o2 δ3 fun y => asI y (fun k => oiC δ3[i]? (fun a kvs => kvs.length ≤ 2000000 ∧ E.nx (δ3.set i (.gx (.oi a (putI kvs k x))))) .mk) .mk) := rfl
omit [Tb] in
@[simp ↓] theorem mDI_ap (δ : DS) (R : Cell → DS → Prop) : mDI δ R = ∀ a, R (.gx (.oi a [])) δ := rfl
omit [Tb] in
@[simp ↓] theorem mDG_ap (δ : DS) (R : Cell → DS → Prop) : mDG δ R = ∀ a, R (.gx (.og a [])) δ := rfl
omit [Tb] in
@[simp ↓] theorem mDI1_ap (wk wv : DE) (δ : DS) (R : Cell → DS → Prop) : mDI1 wk wv δ R = (wk δ fun o δ1 => use o δ1 fun x => asI x (fun k => wv δ1 fun o2 δ2 => lk o2 δ2 fun y δ3 => ∀ a, R (.gx (.oi a [(k, y)])) δ3) .mk) := rfl
omit [Tb] in
@[simp ↓] theorem oiC_oi (a : Addr) (kvs : List (Int × PyData)) (k : Addr → List (Int × PyData) → Prop) (u : Stop k) : oiC (some (.gx (.oi a kvs))) k u = k a kvs :=
  propext ⟨fun ⟨b, ks, e, h⟩ => by cases e; exact h, fun h => ⟨a, kvs, rfl, h⟩⟩
omit [Tb] in
@[simp ↓] theorem isOi_oi (a : Addr) (kvs : List (Int × PyData)) (δ : DS) (i : Nat) (h : δ[i]? = some (.gx (.oi a kvs))) : isOi δ i = True := eq_true ⟨a, kvs, h⟩
section
variable {X : Cx} {e f : Expr} {pos pos' px apos cpos : Pos} {x : Str} {i : Nat}
theorem DnI.some {K : PySem.W.Frag} {G : Hp} {ws : List (Key × V)} {kvs : List (Int × PyData)} (d : DnI K G ws kvs) (k : Int) : (valV ws (Sum.inl k)).isSome = (valI kvs k).isSome := by
  rcases d.val k with ⟨q1, q2⟩ | ⟨x, v, q1, q2, _⟩ <;> rw [q1, q2] <;> rfl
end
end DL
set_option Elab.async false
set_option linter.all false
set_option maxRecDepth 100000
set_option maxHeartbeats 4000000
namespace DL
open PySem PySem.Spec PyProof.Rows L2
variable [Tb]
section
variable {X : Cx} {e f : Expr} {pos pos' px p1 apos cpos : Pos} {x : Str} {i : Nat}
end
abbrev Gs := List (Int × Addr × List PyData)
def firstG (gs : Gs) (n : Int) : Option (Addr × List PyData) := (gs.find? fun g => decide (g.1 = n)).map (·.2)
def putG (gs : Gs) (n : Int) (l : Addr) : Gs := if (firstG gs n).isSome then gs else gs ++ [(n, l, [])]
def appG : Gs → Int → PyData → Gs
  | [], _, _ => []
  | g :: gs, n, y => if g.1 = n then (g.1, g.2.1, g.2.2 ++ [y]) :: gs else g :: appG gs n y
def ogC (c : Option Cell) (k : Addr → Gs → Prop) (_u : Stop k) : Prop := ∃ a gs, c = some (.gx (.og a gs)) ∧ k a gs
omit [Tb] in
@[simp ↓] theorem ogC_og (a : Addr) (gs : Gs) (k : Addr → Gs → Prop) (u : Stop k) : ogC (some (.gx (.og a gs))) k u = k a gs :=
  propext ⟨fun ⟨b, ks, e, h⟩ => by cases e; exact h, fun h => ⟨a, gs, rfl, h⟩⟩
def isOg (δ : DS) (i : Nat) : Prop := ∃ a gs, δ[i]? = some (.gx (.og a gs))
omit [Tb] in
@[simp ↓] theorem isOg_og (a : Addr) (gs : Gs) (δ : DS) (i : Nat) (h : δ[i]? = some (.gx (.og a gs))) : isOg δ i = True := eq_true ⟨a, gs, h⟩
def wGApp (i : Nat) (wk wv : DE) : DTS := fun E δ => isOg δ i ∧ wk δ fun o δ1 => use o δ1 fun x => asI x (fun n => ogC δ1[i]? (fun a gs => (gs.length ≤ 1000000 ∧ ∀ g ∈ gs, g.2.2.length ≤ 1000000) ∧ ∀ l, wv (δ1.set i (.gx (.og a (putG gs n l)))) fun o2 δ2 => lk o2 δ2 fun y δ3 => δ3[i]? = some (.gx (.og a (putG gs n l))) ∧ E.nx (δ3.set i (.gx (.og a (appG (putG gs n l) n y))))) .mk) .mk
omit [Tb] in
@[simp ↓] theorem wGApp_ap (i : Nat) (wk wv : DE) (E : DEnds) (δ : DS) : wGApp i wk wv E δ = (isOg δ i ∧ wk δ fun o δ1 => use o δ1 fun x => asI x (fun n => ogC δ1[i]? (fun a gs => (gs.length ≤ 1000000 ∧ ∀ g ∈ gs, g.2.2.length ≤ 1000000) ∧ ∀ l, wv (δ1.set i (.gx (.og a (putG gs n l)))) fun o2 δ2 => lk o2 δ2 fun y δ3 => δ3[i]? = some (.gx (.og a (putG gs n l))) ∧ E.nx (δ3.set i (.gx (.og a (appG (putG gs n l) n y))))) .mk) .mk) := rfl
section
variable {K : PySem.W.Frag} {B G H : Hp} {δ : DS} {σ : L2.St} {i : Nat}
end
section
variable {X : Cx} {e f : Expr} {pos px p1 p2 apos cpos apos' cpos' : Pos} {x : Str} {i : Nat}
end
end DL
set_option Elab.async false
set_option linter.all false
set_option maxRecDepth 100000
set_option maxHeartbeats 4000000
namespace DL
open PySem PySem.Spec PyProof.Rows L2
variable [Tb]
def obD (n : Str) (fs : List (Str × PyData)) : PyData := objD n fs
def putD1 (f : Str) (x : PyData) : List (Str × PyData) → List (Str × PyData)
  | [] => [(f, x)]
  | (g, y) :: r => if g = f then (g, x) :: r else (g, y) :: putD1 f x r
section
variable {K : PySem.W.Frag} {G : Hp}
/-- fields and what they stand for -/
def FldOk (K : PySem.W.Frag) (G : Hp) (ws : List (Str × V)) (fs : List (Str × PyData)) : Prop := ws.map (·.1) = fs.map (·.1) ∧ DnL K G (ws.map (·.2)) (fs.map (·.2))
theorem FldOk.nil : FldOk K G [] [] := ⟨rfl, .nil⟩
theorem FldOk.split {w : Str × V} {ws : List (Str × V)} {p : Str × PyData} {fs : List (Str × PyData)} (h : FldOk K G (w :: ws) (p :: fs)) : w.1 = p.1 ∧ Dn K G w.2 p.2 ∧ FldOk K G ws fs := by
  obtain ⟨h1, h2⟩ := h
  simp only [List.map_cons, List.cons.injEq] at h1 h2
  cases h2 with
  | cons a b => exact ⟨h1.1, a, h1.2, b⟩
theorem FldOk.join {w : Str × V} {ws : List (Str × V)} {p : Str × PyData} {fs : List (Str × PyData)} (h1 : w.1 = p.1) (h2 : Dn K G w.2 p.2) (h3 : FldOk K G ws fs) : FldOk K G (w :: ws) (p :: fs) := by
  refine ⟨?_, ?_⟩
  · simp only [List.map_cons, h1, h3.1]
  · exact .cons h2 h3.2
theorem FldOk.look {f : Str} {y : PyData} : ∀ {ws : List (Str × V)} {fs : List (Str × PyData)}, FldOk K G ws fs → fs.lookup f = some y → ∃ v, ws.lookup f = some v ∧ Dn K G v y
  | [], [], _, e => by cases e
  | [], _ :: _, h, _ => by cases h.1
  | _ :: _, [], h, _ => by cases h.1
  | (a, v) :: ws, (b, x) :: fs, h, e => by
    obtain ⟨h1, h2, h3⟩ := h.split
    have h1 : a = b := h1
    subst h1
    rw [List.lookup_cons] at e ⊢
    cases hb : f == a with
    | true => rw [hb] at e; cases e; exact ⟨v, rfl, h2⟩
    | false => rw [hb] at e; exact FldOk.look h3 e
theorem FldOk.none {f : Str} : ∀ {ws : List (Str × V)} {fs : List (Str × PyData)}, FldOk K G ws fs → fs.lookup f = none → ws.lookup f = none
  | [], [], _, _ => rfl
  | [], _ :: _, h, _ => by cases h.1
  | _ :: _, [], h, _ => by cases h.1
  | (a, v) :: ws, (b, x) :: fs, h, e => by
    obtain ⟨h1, _, h3⟩ := h.split
    have h1 : a = b := h1
    subst h1
    rw [List.lookup_cons] at e ⊢
    cases hb : f == a with
    | true => rw [hb] at e; cases e
    | false => rw [hb] at e; exact FldOk.none h3 e
theorem FldOk.put {f : Str} {v : V} {x : PyData} (hv : Dn K G v x) : ∀ {ws : List (Str × V)} {fs : List (Str × PyData)}, FldOk K G ws fs → FldOk K G (putF f v ws) (putD1 f x fs)
  | [], [], _ => .join rfl hv .nil
  | [], _ :: _, h => by cases h.1
  | _ :: _, [], h => by cases h.1
  | (a, u) :: ws, (b, y) :: fs, h => by
    obtain ⟨h1, h2, h3⟩ := h.split
    have h1 : a = b := h1
    subst h1
    unfold putF putD1
    split
    · exact .join rfl hv h3
    · exact .join rfl h2 (FldOk.put hv h3)
theorem FldOk.len {ws : List (Str × V)} {fs : List (Str × PyData)} (h : FldOk K G ws fs) : ws.length = fs.length := by
  have := congrArg List.length h.1
  simpa using this
end
/-- an object's data, looked at -/
def obC (x : PyData) (n : Str) (k : List (Str × PyData) → Prop) (_u : Stop k) : Prop := ∃ fs, x = obD n fs ∧ k fs
def fldC (x : PyData) (n f : Str) (k : PyData → Prop) (_u : Stop k) : Prop := ∃ fs y, x = obD n fs ∧ fs.lookup f = some y ∧ k y
/-- o.f -/
def wFld (n f : Str) (w : DE) : DE := fun δ R => w δ fun o δ1 => use o δ1 fun x => fldC x n f (fun y => R (.d y) δ1) .mk
/-- an object of one's own in a slot -/
def ownC (c : Option Cell) (n : Str) (k : Addr → List (Str × PyData) → Prop) (_u : Stop k) : Prop := ∃ a fs, c = some (.ob a n fs) ∧ k a fs
def wFldO (i : Nat) (n f : Str) : DE := fun δ R => ownC δ[i]? n (fun _ fs => ∃ y, fs.lookup f = some y ∧ R (.d y) δ) .mk
/-- the target self.f -/
def gA (i : Nat) (n f : Str) : DTG := fun x δ R => ownC δ[i]? n (fun a fs => fs.length < 900 ∧ R (δ.set i (.ob a n (putD1 f x fs)))) .mk
omit [Tb] in
@[simp ↓] theorem wFld_ap (n f : Str) (w : DE) (δ : DS) (R : Opd → DS → Prop) : wFld n f w δ R = (w δ fun o δ1 => use o δ1 fun x => fldC x n f (fun y => R (.d y) δ1) .mk) := rfl
omit [Tb] in
@[simp ↓] theorem wFldO_ap (i : Nat) (n f : Str) (δ : DS) (R : Opd → DS → Prop) : wFldO i n f δ R = ownC δ[i]? n (fun _ fs => ∃ y, fs.lookup f = some y ∧ R (.d y) δ) .mk := rfl
omit [Tb] in
@[simp ↓] theorem gA_ap (i : Nat) (n f : Str) (x : PyData) (δ : DS) (R : DS → Prop) : gA i n f x δ R = ownC δ[i]? n (fun a fs => fs.length < 900 ∧ R (δ.set i (.ob a n (putD1 f x fs)))) .mk := rfl
@[simp ↓] theorem ownC_some (a : Addr) (n : Str) (fs : List (Str × PyData)) (k : Addr → List (Str × PyData) → Prop) (u : Stop k) : ownC (some (.ob a n fs)) n k u = k a fs :=
  propext ⟨fun ⟨a', fs', e, h⟩ => by cases e; exact h, fun h => ⟨a, fs, rfl, h⟩⟩
theorem obD_inj {n : Str} {fs gs : List (Str × PyData)} (h : obD n fs = obD n gs) : fs = gs := by
  unfold obD at h
  simp only [PyData.dict.injEq, List.cons.injEq, true_and] at h
  have inj : ∀ {xs ys : List (Str × PyData)}, (xs.map fun p => (PyData.str p.1, p.2)) = (ys.map fun p => (PyData.str p.1, p.2)) → xs = ys := by
    intro xs
    induction xs with
    | nil => intro ys h; cases ys with | nil => rfl | cons y ys => cases h
    | cons x xs ih =>
      intro ys h
      cases ys with
      | nil => cases h
      | cons y ys =>
        simp only [List.map_cons, List.cons.injEq, Prod.mk.injEq, PyData.str.injEq] at h
        rw [ih h.2, Prod.ext h.1.1 h.1.2]
  exact inj h
@[simp ↓] theorem obC_of {n : Str} {fs : List (Str × PyData)} {k : List (Str × PyData) → Prop} {u : Stop k} : obC (obD n fs) n k u = k fs :=
  propext ⟨fun ⟨fs', e, h⟩ => by rw [obD_inj e]; exact h, fun h => ⟨fs, rfl, h⟩⟩
/-- what stands for an object is one -/
theorem dn_ob {K : PySem.W.Frag} {G : Hp} {v : V} {n : Str} {fs : List (Str × PyData)} (h : Dn K G v (obD n fs)) : ∃ a C dx ws, v = .ref a ∧ G a = some (.ins C dx ws) ∧ ObjK K n C ∧ FldOk K G ws fs := by
  unfold obD at h
  generalize hx : objD n fs = x at h
  cases h with
  | ob h k e t =>
    rename_i a C dx n' ws fs'
    simp only [PyData.dict.injEq, List.cons.injEq, Prod.mk.injEq, PyData.str.injEq, true_and] at hx
    obtain ⟨rfl, h2⟩ := hx
    have : fs = fs' := obD_inj (n := n) (congrArg (fun l => PyData.dict ((PyData.int markI, PyData.str n) :: l)) h2)
    subst this
    exact ⟨a, C, dx, ws, rfl, h, k, e, t⟩
  | _ => cases hx
theorem ObjK.uniq {K : PySem.W.Frag} {n : Str} {C D : Addr} (h : ObjK K n C) (k : PySem.W.nsIn K mainGlobals n = some (some (.ref D))) : C = D := by
  have := h.at_.symm.trans k
  cases this
  rfl
section
variable {X : Cx} {e : Expr} {f : Str} {pos : Pos} {n : Str} {C : Addr}
theorem pg_attr {o : Expr} {ta : TE} (ha : PE X o ta) : PG X (.Attribute o f pos) (fun v σ H Q => ta σ H fun x H2 => ∃ a C dx fs, x = .ref a ∧ H2 a = some (.ins C dx fs) ∧ Cls X.K C ∧ NoAttr X.K C f ∧ fs.length < 1000 ∧ Q σ (upd H2 a (.ins C dx (putF f v fs)))) where
  run pins s σ H v u Q I r h := by
    have at_ := ha.run pins s σ H _ I h
    rw [assign_Attribute]
    intro Γ p hΓ
    simp only [Sem.wp_bind', Sem.wp_holding, Sem.wp_cmd_standAt, Sem.wp_release, Sem.wp_pure']
    refine Sem.wp_mono (model X.prog X.w) Γ _ (fun ov p1 s1 got => ?_) (fun _ _ _ z => z) _ _ (at_ Γ p hΓ)
    obtain ⟨x, H2, I2, rx, a, C, dx, fs, rfl, ea, c, nn, few, q⟩ := got
    cases rx
    exact setattr_ok (Q := fun _ s' => ∃ σ' H', Inv X pins σ' H' s' ∧ Q σ' H') I2 ea c nn few r (fun s3 I3 => ⟨σ, _, I3, q⟩) Γ _ hΓ
end
end DL
set_option Elab.async false
set_option linter.all false
set_option maxRecDepth 100000
set_option maxHeartbeats 4000000
namespace DL
open PySem PySem.Spec PyProof.Rows L2 StX
variable [Tb]
theorem RoomG.make {k : Nat} {A : Around} (r : RoomG (k + 1) A) (C : Addr) (us : List Value) (kw : List (Str × Value)) : RoomG k (A.under (.builtin "type.__call__" ⟨.ref C :: us, kw⟩)) :=
  ⟨r.rm.make C us kw, by
    simp only [Around.under, r.gd]
    rfl⟩
section
variable {X : Cx} {CX : CXT} {k : Nat} {f C : Addr} {fd : FuncData} {ps : List Str} {sp : Sp} {E : XK} {o e : Expr} {es : List Expr} {ta : TE} {t : TA} {m x : Str} {apos pos p : Pos}
theorem pe_methG {pl : Sem Bool} (he : PE X o ta) (c : Cls X.K C) (hm : Meth X.K C m f) (F : FnG X.prog X.w X.K X.mg X.base CX k f fd ps sp) (hr : RoomG k X.A) (hb : Binds X.K fd ps []) (hx : Passes CX X E) (ha : PA X (e :: es) t)
    (hst : starEach (e :: es) X.env = (false, eval e X.env) :: starEach es X.env := by rfl) (hpl : (backTo pos (starEach es X.env)).any (·.1) = false := by rfl)
    (ht : eval (.Call (.Attribute o m apos) (e :: es) [] pos) X.env = (do
      let ov ← eval o X.env
      standAt apos.atName
      let (f, first) ← holding [ov] (getMethod ov m pl)
      callWith pos f first (backTo pos (starEach (e :: es) X.env)) (backToKw pos (keywordEach [] X.env))) := by rfl) :
    PE X (.Call (.Attribute o m apos) (e :: es) [] pos) (tMethR C m sp E ta t) :=
  ⟨fun pins s σ H Q I h => PySem.W.methodCall_KW (pl := pl) (wpAny_mono (he.run pins s σ H _ I h) (fun u s1 got => by
    obtain ⟨v, H1, I1, rx, a, dx, fs, rfl, ea, l, q⟩ := got
    cases rx
    exact getmeth_ok I1 ea c hm l (PySem.W.callWith_K (first := [.ref a]) (h₀ := X.base) I.ok.mod.kin hm.kp (wpAny_mono (ha.run pos pins s1 σ H1 _ I1 q) (fun us s2 ⟨vs, H2, I2, r, q2⟩ =>
      ⟨I2.kIn, run_fnG (us := .ref a :: us) (vs := .ref a :: vs) F hr hb hx I2 (.cons rfl r) q2⟩) fun _ _ z => z) hst hpl)) fun _ _ z => z) ht⟩
theorem run_makeG {pins : List (Addr × Obj)} {σ : L2.St} {H : Hp} {s : Shared} {Q : VK} {us : List Value} {vs : List V} (M : Mk X.K C f) (F : FnG X.prog X.w X.K X.mg X.base CX k f fd ps sp) (hr : RoomG (k + 1) X.A) (hb : Binds X.K fd ps []) (hx : Passes CX X E) (I : Inv X pins σ H s) (r : Vals vs us)
    (h : ∀ a dx, H a = Option.none → H dx = Option.none → dx ≠ a → sp (V.ref a :: vs) (upd (upd H dx (.own a)) a (.ins C dx [])) (fun v H2 => v = .non ∧ Q (.ref a) H2) E) :
    wpAny (model X.prog X.w) X.A (call (.ref C) us) (EP X pins σ Q) X.xe s := by
  have made := Inv.made (C := C) I
  have q := h (s.heap.objs.size + 1) s.heap.objs.size (I.hok.fresh (Nat.le_succ _)) (I.hok.fresh (Nat.le_refl _)) (Nat.ne_of_lt (Nat.lt_succ_self _))
  have vals : Vals (V.ref (s.heap.objs.size + 1) :: vs) (Value.ref (s.heap.objs.size + 1) :: us) := .cons rfl r
  have many : (Value.ref (s.heap.objs.size + 1) :: us ++ []).length = ps.length := (List.append_nil (Value.ref (s.heap.objs.size + 1) :: us)).symm ▸ vals.length.symm.trans (F.len _ _ _ _ q)
  have bound := hb _ (Value.ref (s.heap.objs.size + 1) :: us) made.kIn many
  rw [List.append_nil] at bound
  refine wpAny_call (make_map (f := f) I.kIn M.makes M.init (beq_iff_eq.mp M.fn) (codeAny_mono (F.run _ X.stack _ _ ⟨_, []⟩ _ _ _ E (hr.make C us []) (made.env0.make C us []) bound vals q) ?_))
  rintro (err | _ | _ | _ | u) z back <;> first | exact hx pins σ _ _ err z made back | exact False.elim back | skip
  obtain ⟨v, H', I3, rv, rfl, q3⟩ := made.after back
  exact ⟨rv, .ref (s.heap.objs.size + 1), H', I3, rfl, q3⟩
end
section
variable {K : PySem.W.Frag} {B G H : Hp} {δ : DS} {σ : L2.St} {a C dx : Addr} {n : Str}
/-- a new object in front, no one's yet -/
theorem Rel.consOb {cs : List Cell} {τ : L2.St} (R : Rel K B G cs τ H) (h : H a = Option.none) (k : ObjK K n C) : Rel K B G (.ob a n [] :: cs) (some (.ref a) :: τ) (upd H a (.ins C dx [])) := by
  have far : ∀ {i : Nat} {c : Cell}, cs[i]? = some c → a ∉ c.fp := fun e m => by
    obtain ⟨u, eu⟩ := R.tr e m
    rw [h] at eu
    cases eu
  refine ⟨by simp [R.len], R.sg.trans (same_new h), R.sb.trans (same_new h), R.dj, fun i c w e1 e2 => ?_, fun i j c c' b e1 e2 m1 m2 => ?_, fun i c b e m => ?_, ⟨tabs_new R.tt.t h, R.tt.n⟩⟩
  · cases i with
    | zero => cases e1; cases e2; exact ⟨rfl, C, dx, [], upd_same, k, rfl, .nil⟩
    | succ i =>
      refine (R.ok i c w e1 e2).stay (Same.refl _) fun b hb => upd_ne fun z => ?_
      subst z
      exact far e1 hb
  · cases i with
    | zero =>
      cases e1
      obtain rfl := List.mem_singleton.mp m1
      cases j with
      | zero => rfl
      | succ j => exact absurd m2 (far e2)
    | succ i =>
      cases j with
      | zero =>
        cases e2
        obtain rfl := List.mem_singleton.mp m2
        exact absurd m1 (far e1)
      | succ j => exact congrArg _ (R.ap i j c c' b e1 e2 m1 m2)
  · cases i with
    | zero =>
      cases e
      obtain rfl := List.mem_singleton.mp m
      exact ⟨R.freeG h, R.freeB h⟩
    | succ i => exact R.fr i c b e m
end
def madeC (cs : List Cell) (n : Str) (k : List (Str × PyData) → Prop) (_u : Stop k) : Prop := ∃ a fs rest, cs = .ob a n fs :: rest ∧ k fs
@[simp ↓] theorem madeC_cons (a : Addr) (n : Str) (fs : List (Str × PyData)) (rest : List Cell) (k : List (Str × PyData) → Prop) (u : Stop k) : madeC (.ob a n fs :: rest) n k u = k fs :=
  propext ⟨fun ⟨a', fs', r', e, h⟩ => by cases e; exact h, fun h => ⟨a, fs, rest, rfl, h⟩⟩
/-- C(..) -/
def wMake (n : Str) (sp : DSp) (w : DA) : DE := fun δ R => w δ fun os δ1 => lkL os δ1 fun xs δ2 => ∀ a : Addr, ask sp (.ob a n [] :: xs.map Cell.d) (fun y cs => y = .none ∧ madeC cs n (fun fs => R (.d (obD n fs)) δ2) .mk) .mk
/-- o.m(..) -/
def wMeth (n m : Str) (sp : DSp) (w : DE) (wa : DA) : DE := fun δ R => w δ fun o δ1 => lk o δ1 fun x δ2 => obC x n (fun fs => fs.lookup m = none ∧ wa δ2 fun os δ3 => lkL os δ3 fun xs δ4 => ask sp (.d x :: xs.map Cell.d) (fun y _ => R (.d y) δ4) .mk) .mk
omit [Tb] in
@[simp ↓] theorem wMake_ap (n : Str) (sp : DSp) (w : DA) (δ : DS) (R : Opd → DS → Prop) : wMake n sp w δ R = (w δ fun os δ1 => lkL os δ1 fun xs δ2 => ∀ a : Addr, ask sp (.ob a n [] :: xs.map Cell.d) (fun y cs => y = .none ∧ madeC cs n (fun fs => R (.d (obD n fs)) δ2) .mk) .mk) := rfl
omit [Tb] in
@[simp ↓] theorem wMeth_ap (n m : Str) (sp : DSp) (w : DE) (wa : DA) (δ : DS) (R : Opd → DS → Prop) : wMeth n m sp w wa δ R = (w δ fun o δ1 => lk o δ1 fun x δ2 => obC x n (fun fs => fs.lookup m = none ∧ wa δ2 fun os δ3 => lkL os δ3 fun xs δ4 => ask sp (.d x :: xs.map Cell.d) (fun y _ => R (.d y) δ4) .mk) .mk) := rfl
section
variable {X : Cx} {k : Nat} {f C : Addr} {fd : FuncData} {ps : List Str} {sp : DSp} {o e : Expr} {es : List Expr} {w : DE} {wa : DA} {n m x : Str} {apos pos p : Pos}
end
end DL
set_option Elab.async false
set_option linter.all false
set_option maxRecDepth 100000
set_option maxHeartbeats 4000000
namespace DL
open PySem PySem.Spec PyProof.Rows L2
variable [Tb]
omit [Tb] in
theorem objK_mk {K : PySem.W.Frag} {n : Str} {C : Addr} (at_ : PySem.W.nsIn K mainGlobals n = some (some (.ref C))) (k1 : PySem.W.kitOne K (.ref C) (.type "int") = some false) (k2 : PySem.W.kitOne K (.ref C) (.type "bool") = some false) (k3 : PySem.W.kitOne K (.ref C) (.type "str") = some false)
    (k4 : PySem.W.kitOne K (.ref C) (.type "tuple") = some false) (k5 : PySem.W.kitOne K (.ref C) (.type "list") = some false) (k6 : PySem.W.kitOne K (.ref C) (.type "dict") = some false) (pg : PySem.W.plainGet K C Str.empty = true) (hd : PySem.W.hasDictIn K C = true) (po : PySem.W.plainOver K C = true)
    (sa : PySem.W.findIn K (.ref C) "__setattr__" = some (some (.builtin "object.__setattr__"))) (ha : PySem.W.findIn K (.ref C) "__class__" = some (some (.builtin "object.__class__"))) (hn : PySem.W.specialIn K (.builtin "object.__class__") "__get__" = some (some (.builtin "getset_descriptor.__get__")))
    (tk : PySem.W.takesIn K (.builtin "object.__class__") = some true) (mr : PySem.W.mroIn K C (.type "object") = some true) : ObjK K n C :=
  ⟨at_, fun T hT => by
    simp only [List.mem_cons, List.not_mem_nil, or_false] at hT
    rcases hT with rfl | rfl | rfl | rfl | rfl | rfl
    · exact k1
    · exact k2
    · exact k3
    · exact k4
    · exact k5
    · exact k6, ⟨pg, hd, po, sa⟩, ha, hn, tk, mr⟩
omit [Tb] in
@[simp ↓] theorem sameIo_ob (a : Addr) (n : Str) (fs gs : List (Str × PyData)) (cs : List Cell) (δ : DS) : sameIo (.ob a n fs :: cs) (.ob a n gs :: δ) = sameIo cs δ := propext ⟨fun h => h.2, fun h => ⟨⟨gs, rfl⟩, h⟩⟩
omit [Tb] in
@[simp ↓] theorem outC_ob (a : Addr) (n : Str) (fs : List (Str × PyData)) (e : Cell) (cs : List Cell) (δ : DS) : outC (.ob a n fs :: cs) (e :: δ) = e :: outC cs δ := rfl
/-- the statement at j in a class's body -/
def clsS (s : Stmt) (j : Nat) : Stmt := match s with
  | .ClassDef _ _ _ body .. => body.getD j s
  | _ => s
end DL
set_option Elab.async false
set_option linter.all false
set_option maxRecDepth 100000
set_option maxHeartbeats 4000000
namespace DL
open PySem PySem.Spec PyProof.Rows L2 StX
variable [Tb]
def obHead (o : Opd) (δ : DS) (n mn : Str) : Prop :=
  match o with
  | .d x => ∃ fs, x = obD n fs ∧ fs.lookup mn = none
  | .s i => (∃ a fs, δ[i]? = some (.ob a n fs) ∧ fs.lookup mn = none) ∨ ∃ a l f xs, δ[i]? = some (.gx (.bu a l n f xs)) ∧ (mn == f) = false
theorem obHead_ok {K : PySem.W.Frag} {B G H : Hp} {δ : DS} {σ : L2.St} {v : V} {o : Opd} {n mn : Str} (R : Rel K B G δ σ H) (ok : OpdOk K G σ v o) (h : obHead o δ n mn) : ∃ a C dx ws, v = .ref a ∧ H a = some (.ins C dx ws) ∧ ObjK K n C ∧ ws.lookup mn = none := by
  cases o with
  | d x =>
    obtain ⟨fs, rfl, l⟩ := h
    obtain ⟨a, C, dx, ws, rfl, hG, k, fo⟩ := dn_ob ok
    exact ⟨a, C, dx, ws, rfl, R.sg _ _ hG, k, fo.none l⟩
  | s i =>
    have ok : σ[i]? = some (some v) := ok
    rcases h with ⟨a, fs, h, l⟩ | ⟨a, l, f, xs, h, nf⟩
    · obtain ⟨o', hσ, rfl, C, dx, ws, ha, k, fo⟩ := R.at h
      rw [ok] at hσ; cases hσ
      exact ⟨a, C, dx, ws, rfl, ha, k, FldOk.none (K := K) (G := G) fo l⟩
    · obtain ⟨o', hσ, e', _, C, dx, vs, ha, k, _⟩ := R.at h
      rw [ok] at hσ; cases hσ; cases e'
      refine ⟨a, C, dx, _, rfl, ha, k, ?_⟩
      simp [List.lookup, nf]
def wMethM (m : List Bool) (n mn : Str) (sp : DSp) (w : DE) (wa : DA) : DE := fun δ R => w δ fun o δ1 => obHead o δ1 n mn ∧ wa δ1 fun os δ2 => lkM m (o :: os) δ2 fun os' δ3 => (slotsOf os').Nodup ∧ ask sp (os'.map (cellOf δ3)) (fun x cs => R (.d x) (putBack os' cs δ3)) .mk
omit [Tb] in
@[simp ↓] theorem wMethM_ap (m : List Bool) (n mn : Str) (sp : DSp) (w : DE) (wa : DA) (δ : DS) (R : Opd → DS → Prop) : wMethM m n mn sp w wa δ R = (w δ fun o δ1 => obHead o δ1 n mn ∧ wa δ1 fun os δ2 => lkM m (o :: os) δ2 fun os' δ3 => (slotsOf os').Nodup ∧ ask sp (os'.map (cellOf δ3)) (fun x cs => R (.d x) (putBack os' cs δ3)) .mk) := rfl
omit [Tb] in
@[simp ↓] theorem obHead_d (x : PyData) (δ : DS) (n mn : Str) : obHead (.d x) δ n mn = obC x n (fun fs => fs.lookup mn = none) .mk := rfl
section
variable {X : Cx} {k : Nat} {f C : Addr} {fd : FuncData} {ps : List Str} {sp : DSp} {o e : Expr} {es : List Expr} {w : DE} {wa : DA} {n mn x : Str} {apos pos p : Pos} {m : List Bool}
theorem methM_args {σ : L2.St} {Q : VK} {v : V} {B G G1 : Hp} {R : Opd → DS → Prop} {o : Opd} (kk : ∀ v H' G' o δ', R o δ' → Same G G' → Rel X.K B G' δ' σ H' → OpdOk X.K G' σ v o → Q v H') (s1 : Same G G1) (ok1 : OpdOk X.K G1 σ v o)
    {vs : List V} {H3 G3 : Hp} {os : List Opd} {δ3 : DS} (r3 : lkM m (o :: os) δ3 fun os' δ4 => (slotsOf os').Nodup ∧ ask sp (os'.map (cellOf δ4)) (fun x cs => R (.d x) (putBack os' cs δ4)) .mk) (s3 : Same G1 G3) (rel3 : Rel X.K B G3 δ3 σ H3) (ok3 : OpdsOk X.K G3 σ vs os) : liftSp X.K sp (v :: vs) H3 Q E0 := by
  obtain ⟨G4, δ4, os', ⟨nd, q⟩, s4, rel4, ok4⟩ := lkM_ok rel3 (OpdsOk.cons (ok1.mono s3) ok3) r3
  exact ⟨_, G4, _, _, call_rel rel4 ok4 nd, q, fun v H' G' z cs r s5 rel5 dn => kk v H' G' _ _ r (s1.trans (s3.trans (s4.trans s5))) (call_back rel4 ok4 nd s5 rel5) dn⟩
theorem je_methM (hC : PySem.W.nsIn X.K mainGlobals n = some (some (.ref C))) (c : Cls X.K C) (hm : Meth X.K C mn f) (F : FnG X.prog X.w X.K X.mg X.base CX0 k f fd ps (liftSp X.K sp)) (hr : RoomG k X.A) (hb : Binds X.K fd ps []) (ho : JE X o w) (ha : JA X (e :: es) wa) {pl : Sem Bool}
    (hst : starEach (e :: es) X.env = (false, eval e X.env) :: starEach es X.env := by rfl) (hpl : (backTo pos (starEach es X.env)).any (·.1) = false := by rfl)
    (ht : eval (.Call (.Attribute o mn apos) (e :: es) [] pos) X.env = (do
      let ov ← eval o X.env
      standAt apos.atName
      let (f, first) ← holding [ov] (getMethod ov mn pl)
      callWith pos f first (backTo pos (starEach (e :: es) X.env)) (backToKw pos (keywordEach [] X.env))) := by rfl) :
    JE X (.Call (.Attribute o mn apos) (e :: es) [] pos) (wMethM m n mn sp w wa) :=
  pe_le (pe_methG (E := E0) ho c hm F hr hb pass0 ha hst hpl ht) fun pins s σ H Q I ⟨B, G, δ, R, rel, hw, kk⟩ => ⟨B, G, δ, _, rel, hw, fun v H1 G1 o δ1 ⟨r0, r1⟩ s1 rel1 ok1 => by
    obtain ⟨a, C', dx, ws, rfl, hH, k', l⟩ := obHead_ok rel1 ok1 r0
    obtain rfl := k'.uniq hC
    exact ⟨a, dx, ws, rfl, hH, l, B, G1, δ1, _, rel1, r1, fun vs H3 G3 os δ3 r3 s3 rel3 ok3 => methM_args kk s1 ok1 r3 s3 rel3 ok3⟩⟩
end
def pLenD : PN := one fun x R => ∃ kvs, x = dKD kvs ∧ R (.int kvs.length)
omit [Tb] in
@[simp ↓] theorem pLenD_K (kvs : List (Int × PyData)) (R : PyData → Prop) : pLenD [dKD kvs] R = R (.int kvs.length) :=
  propext ⟨fun ⟨ks, e, h⟩ => by rw [dKD_inj e]; exact h, fun h => ⟨kvs, rfl, h⟩⟩
def wLenT (i : Nat) : DE := fun δ R => odC δ[i]? (fun _ kvs => R (.d (.int kvs.length)) δ) .mk
omit [Tb] in
@[simp ↓] theorem wLenT_ap (i : Nat) (δ : DS) (R : Opd → DS → Prop) : wLenT i δ R = odC δ[i]? (fun _ kvs => R (.d (.int kvs.length)) δ) .mk := rfl
section
variable {K : PySem.W.Frag} {G H : Hp} {v : V}
end
section
variable {X : Cx}
def pLstK : List PyData → (List PyData → Prop) → Prop := oneL fun x R => ∃ kvs, x = dKD kvs ∧ R (kvs.map fun p => .int p.1)
end
omit [Tb] in
@[simp ↓] theorem pLstK_K (kvs : List (Int × PyData)) (R : List PyData → Prop) : pLstK [dKD kvs] R = R (kvs.map fun p => .int p.1) :=
  propext ⟨fun ⟨ks, e, h⟩ => by rw [dKD_inj e]; exact h, fun h => ⟨kvs, rfl, h⟩⟩
def wDGetC (i : Nat) (w u : DE) : DE := fun δ R => isOd δ i ∧ w δ fun o δ1 => u δ1 fun o2 δ2 => use o δ2 fun x => keyOf x (fun k => lk o2 δ2 fun y δ3 => odC δ3[i]? (fun _ kvs => R (.d ((valD kvs k).getD y)) δ3) .mk) .mk
omit [Tb] in
@[simp ↓] theorem wDGetC_ap (i : Nat) (w u : DE) (δ : DS) (R : Opd → DS → Prop) : wDGetC i w u δ R = (isOd δ i ∧ w δ fun o δ1 => u δ1 fun o2 δ2 => use o δ2 fun x => keyOf x (fun k => lk o2 δ2 fun y δ3 => odC δ3[i]? (fun _ kvs => R (.d ((valD kvs k).getD y)) δ3) .mk) .mk) := rfl
def pShr : P2 := ints2 fun i j R => 0 ≤ j ∧ R (.int (i / 2 ^ j.toNat))
omit [Tb] in
@[simp ↓] theorem pShr_i (i j : Int) (R : PyData → Prop) : pShr (.int i) (.int j) R = (0 ≤ j ∧ R (.int (i / 2 ^ j.toNat))) := rfl
section
variable {X : Cx} {e f : Expr} {pos pos' px apos cpos : Pos} {x : Str} {i : Nat}
end
end DL
set_option Elab.async false
set_option linter.all false
set_option maxRecDepth 100000
set_option maxHeartbeats 4000000
namespace DL
open PySem PySem.Spec PyProof.Rows L2 StX
variable [Tb]
section
variable {K : PySem.W.Frag} {B G H : Hp} {δ : DS} {σ : L2.St} {a : Addr} {n : Str} {C dx : Addr} {i : Nat}
/-- the slot in front is forgotten -/
theorem Rel.tail {c : Cell} {o : Option V} {cs : List Cell} {τ : L2.St} (R : Rel K B G (c :: cs) (o :: τ) H) : Rel K B G cs τ H :=
  ⟨by have := R.len; simpa using this, R.sg, R.sb, R.dj, fun i c w e1 e2 => R.ok (i + 1) c w e1 e2, fun i j c c' b e1 e2 m1 m2 => Nat.succ.inj (R.ap (i + 1) (j + 1) c c' b e1 e2 m1 m2), fun i c b e m => R.fr (i + 1) c b e m, R.tt⟩
/-- a new object in front, without attributes -/
theorem Rel.consB0 {cs : List Cell} {τ : L2.St} (R : Rel K B G cs τ H) (h : H a = Option.none) (k : ObjK K n C) : Rel K B G (.gx (.b0 a n) :: cs) (some (.ref a) :: τ) (upd H a (.ins C dx [])) := by
  have R1 := R.consOb (C := C) (dx := dx) (n := n) h k
  have f0 := R1.fr 0 _ a rfl (by simp [Cell.fp])
  exact R1.recell (i := 0) (c := .gx (.b0 a n)) rfl ⟨rfl, C, dx, upd_same, k⟩ fun b hb => by
    have : b = a := by simpa [Cell.fp, GX.fp] using hb
    subst this
    exact ⟨f0, fun j c' hj hc m => hj (R1.ap j 0 c' _ b hc rfl m (by simp [Cell.fp]))⟩
end
def outGx (cs : List Cell) (k : GX → Prop) (_u : Stop k) : Prop := ∃ t rest, cs = .gx t :: rest ∧ k t
omit [Tb] in
@[simp ↓] theorem outGx_cons (t : GX) (rest : List Cell) (k : GX → Prop) (u : Stop k) : outGx (.gx t :: rest) k u = k t :=
  propext ⟨fun ⟨s, r, e, h⟩ => by cases e; exact h, fun h => ⟨t, rest, rfl, h⟩⟩
/-- C(), kept as one's own -/
def mMake0 (n : Str) (sp : DSp) : DM := fun δ R => ∀ a : Addr, ask sp [.gx (.b0 a n)] (fun y cs => y = .none ∧ outGx cs (fun t => R (.gx t) δ) .mk) .mk
omit [Tb] in
@[simp ↓] theorem mMake0_ap (n : Str) (sp : DSp) (δ : DS) (R : Cell → DS → Prop) : mMake0 n sp δ R = ∀ a : Addr, ask sp [.gx (.b0 a n)] (fun y cs => y = .none ∧ outGx cs (fun t => R (.gx t) δ) .mk) .mk := rfl
section
variable {X : Cx} {CX : CXT} {k : Nat} {f C : Addr} {fd : FuncData} {ps : List Str} {n x : Str} {p pos px p1 p2 apos cpos : Pos} {i : Nat} {e : Expr} {w : DE} {fl : Str}
theorem pe_makeG0 {sp : Sp} {E : XK} (M : Mk X.K C f) (F : FnG X.prog X.w X.K X.mg X.base CX k f fd ps sp) (hr : RoomG (k + 1) X.A) (hb : Binds X.K fd ps []) (hg : Gl X x) (hm : X.mg x = some (.ref C)) (hx : Passes CX X E) (hdb : (x == ("__debug__" : Str)) = false := by decide) : PE X (.Call (.Name x p) [] [] pos) (tMakeR C sp E tNil) :=
  ⟨fun pins s σ H Q I h => wpAny_Call_Name_kw (ld_glob I hg hm (PySem.W.callWith_K0 I.kIn M.kp (run_makeG (us := []) (vs := []) M F hr hb hx I .nil h)) hdb)⟩
theorem jm_make0 {sp : DSp} (ok : ObjK X.K n C) (M : Mk X.K C f) (F : FnG X.prog X.w X.K X.mg X.base CX0 k f fd ps (liftSp X.K sp)) (hr : RoomG (k + 1) X.A) (hb : Binds X.K fd ps []) (hg : Gl X x) (hm : X.mg x = some (.ref C)) (hdb : (x == ("__debug__" : Str)) = false := by decide) : JM X (.Call (.Name x p) [] [] pos) (mMake0 n sp) :=
  pe_le (pe_makeG0 (E := E0) M F hr hb hg hm pass0 hdb) fun pins s σ H Q I ⟨B, G, δ, R, rel, hw, kk⟩ => by
    intro a dx na ndx ne
    have rc := call_rel (vs := []) (os := []) rel .nil List.nodup_nil
    have rg := rc.grow (o := .own a) ndx
    have ro := rg.consB0 (C := C) (dx := dx) (n := n) (a := a) (by rw [upd_ne (Ne.symm ne)]; exact na) ok
    refine ⟨_, G, _, _, ro, hw a, fun v H' G' z cs r s3 rel3 dn => ?_⟩
    obtain ⟨rfl, t, rest, rfl, r⟩ := r
    obtain ⟨o', e1, e2, okt⟩ := rel3.at (i := 0) rfl
    have e1 : some (V.ref a) = o' := by simpa using e1
    have hd : t.hd = a := by
      rw [← e1] at e2
      exact (V.ref.inj (Option.some.inj e2)).symm
    have back := call_back (cs := rest) rel .nil List.nodup_nil s3 rel3.tail
    have back : Rel X.K B G' δ σ H' := by
      cases rest <;> exact back
    have fB : ∀ b ∈ t.fp, B b = none := fun b hb => by
      have z := (rel3.fr 0 _ b rfl hb).2
      by_cases h : ∃ i c, δ[i]? = some c ∧ b ∈ c.fp ∧ i ∉ slotsOf ([] : List Opd)
      · obtain ⟨j, c', h1, h2, _⟩ := h
        exact (rel.fr j c' b h1 h2).2
      · rw [hold_out h] at z; exact z
    refine ⟨dn_none dn, kk (.ref a) H' G' (.gx t) δ r s3 (back.more (fun b hb => (rel3.fr 0 _ b rfl hb).1) (fun j c b e m mb => ?_) fun b hb o e => ?_) fB ⟨by rw [hd], okt⟩⟩
    · have z := (rel3.fr 0 _ b rfl mb).2
      have hh : ∃ i c, δ[i]? = some c ∧ b ∈ c.fp ∧ i ∉ slotsOf ([] : List Opd) := ⟨j, c, e, m, by simp [slotsOf]⟩
      unfold hold at z
      rw [if_pos hh] at z
      obtain ⟨o, eo⟩ := rel.tr e m
      rw [eo] at z; cases z
    · obtain ⟨o', e', n1, n2⟩ := GX.tr okt hb
      rw [e] at e'; cases e'
      exact ⟨n1, n2⟩
end
def b0C (c : Option Cell) (n : Str) (k : Addr → Prop) (_u : Stop k) : Prop := ∃ a, c = some (.gx (.b0 a n)) ∧ k a
omit [Tb] in
@[simp ↓] theorem b0C_b0 (a : Addr) (n : Str) (k : Addr → Prop) (u : Stop k) : b0C (some (.gx (.b0 a n))) n k u = k a :=
  propext ⟨fun ⟨b, e, h⟩ => by cases e; exact h, fun h => ⟨a, rfl, h⟩⟩
def buC (c : Option Cell) (n f : Str) (k : Addr → Addr → List PyData → Prop) (_u : Stop k) : Prop := ∃ a l xs, c = some (.gx (.bu a l n f xs)) ∧ k a l xs
omit [Tb] in
@[simp ↓] theorem buC_bu (a l : Addr) (n f : Str) (xs : List PyData) (k : Addr → Addr → List PyData → Prop) (u : Stop k) : buC (some (.gx (.bu a l n f xs))) n f k u = k a l xs :=
  propext ⟨fun ⟨_, _, _, e, h⟩ => by cases e; exact h, fun h => ⟨a, l, xs, rfl, h⟩⟩
/-- self.f = [] -/
def wBuNew (i : Nat) (n f : Str) : DTS := fun E δ => b0C δ[i]? n (fun a => ∀ l, E.nx (δ.set i (.gx (.bu a l n f [])))) .mk
/-- o.f.append(v) -/
def wBuApp (i : Nat) (n f : Str) (w : DE) : DTS := fun E δ => buC δ[i]? n f (fun _ l0 _ => w δ fun o δ1 => lk o δ1 fun y δ2 => buC δ2[i]? n f (fun a l xs => l = l0 ∧ xs.length ≤ 1000000 ∧ E.nx (δ2.set i (.gx (.bu a l n f (xs ++ [y]))))) .mk) .mk
/-- len(o.f), tuple(o.f) -/
def wBuFn (p : PN) (i : Nat) (n f : Str) : DE := fun δ R => buC δ[i]? n f (fun _ _ xs => p [.list xs] fun z => R (.d z) δ) .mk
omit [Tb] in
@[simp ↓] theorem wBuNew_ap (i : Nat) (n f : Str) (E : DEnds) (δ : DS) : wBuNew i n f E δ = b0C δ[i]? n (fun a => ∀ l, E.nx (δ.set i (.gx (.bu a l n f [])))) .mk := rfl
omit [Tb] in
@[simp ↓] theorem wBuApp_ap (i : Nat) (n f : Str) (w : DE) (E : DEnds) (δ : DS) : wBuApp i n f w E δ = buC δ[i]? n f (fun _ l0 _ => w δ fun o δ1 => lk o δ1 fun y δ2 => buC δ2[i]? n f (fun a l xs => l = l0 ∧ xs.length ≤ 1000000 ∧ E.nx (δ2.set i (.gx (.bu a l n f (xs ++ [y]))))) .mk) .mk := rfl
omit [Tb] in
@[simp ↓] theorem wBuFn_ap (p : PN) (i : Nat) (n f : Str) (δ : DS) (R : Opd → DS → Prop) : wBuFn p i n f δ R = buC δ[i]? n f (fun _ _ xs => p [.list xs] fun z => R (.d z) δ) .mk := rfl
omit [Tb] in
@[simp ↓] theorem obHead_bu (a l : Addr) (n f mn : Str) (xs : List PyData) (δ : DS) (i : Nat) (h : δ[i]? = some (.gx (.bu a l n f xs))) : obHead (.s i) δ n mn = ((mn == f) = false) :=
  propext ⟨fun q => by
    rcases q with ⟨_, _, e, _⟩ | ⟨_, _, _, _, e, q⟩
    · rw [h] at e; cases e
    · rw [h] at e; cases e; exact q, fun q => .inr ⟨a, l, f, xs, h, q⟩⟩
section
variable {X : Cx} {C : Addr} {n x fl : Str} {pos px p1 p2 apos cpos : Pos} {i : Nat} {e : Expr} {w : DE}
theorem js_buNew (hC : PySem.W.nsIn X.K mainGlobals n = some (some (.ref C))) (hn : NoAttr X.K C fl) (hx : PE X (.Name x px) (tVar i))
    (hs : swapsWithSole [.Attribute (.Name x px) fl apos] (.List [] p1) pos.line X.env = pure false := by rfl) (hw : swappedStores [.Attribute (.Name x px) fl apos] (.List [] p1) X.env = pure none := by rfl) (h1 : (assignEach [.Attribute (.Name x px) fl apos] X.env).map (·.2) = [assign (.Attribute (.Name x px) fl apos) X.env] := by rfl) :
    JS X (.Assign [.Attribute (.Name x px) fl apos] (.List [] p1) pos) (wBuNew i n fl) :=
  ps_le (ps_asg (pe_lst pa_nil) (pg_attr hx) hs hw h1) fun pins s σ H D I ⟨B, G, δ, E, rel, ⟨a, hδ, q⟩, k⟩ => by
    obtain ⟨o, hσ, rfl, C', dx, ha, k'⟩ := rel.at hδ
    obtain rfl := k'.uniq hC
    refine ⟨by show (0 : Nat) ≤ sizeLine; decide, fun p np => ⟨.ref a, hσ, a, _, dx, [], rfl, ?_, k'.cl, hn, by simp, ?_⟩⟩
    · rw [upd_ne fun z => by rw [z, np] at ha; cases ha]; exact ha
    · have pa : p ≠ a := fun z => by rw [z, ha] at np; cases np
      refine k.nx _ _ G _ (q p) (Same.refl _) (rel.putGx hδ rfl ⟨Ne.symm pa, _, dx, [], upd_same, k', by rw [upd_ne pa]; exact upd_same, .nil⟩ (fun b hb hn => ?_) fun b hb => ?_)
      · rw [upd_ne fun z => hb (by rw [z]; simp [GX.fp]), upd_ne fun z => hn (by rw [z]; exact np)]
      · have hb : b = a ∨ b = p := by simpa [GX.fp] using hb
        rcases hb with rfl | rfl
        · exact .inl (by simp [GX.fp])
        · exact .inr np
theorem pe_buL (hC : PySem.W.nsIn X.K mainGlobals n = some (some (.ref C))) (hn : NoAttr X.K C fl) (hx : PE X (.Name x px) (tVar i)) (hb : attributeBase (.Name x px) fl X.env (eval (.Name x px) X.env) = eval (.Name x px) X.env := by rfl) :
    PE X (.Attribute (.Name x px) fl p2) (fun σ H Q => ∃ B G δ a l xs, Rel X.K B G δ σ H ∧ δ[i]? = some (.gx (.bu a l n fl xs)) ∧ Q (.ref l) H) :=
  pe_le (pe_fld hx hb) fun pins s σ H Q I ⟨B, G, δ, a, l, xs, rel, hδ, q⟩ => by
    obtain ⟨o, hσ, rfl, _, C', dx, vs, ha, k', hl, _⟩ := rel.at hδ
    obtain rfl := k'.uniq hC
    exact ⟨.ref a, hσ, a, _, dx, _, .ref l, rfl, ha, k'.cl, hn, by simp [List.lookup], q⟩
theorem js_buApp (hb : PE X (.Call (.Attribute (.Attribute (.Name x px) fl p2) "append" apos) [e] [] cpos) (tBM X.K "list" rAppend (fun σ H Q => ∃ B G δ a l xs, Rel X.K B G δ σ H ∧ δ[i]? = some (.gx (.bu a l n fl xs)) ∧ Q (.ref l) H) (tCons (up X.K w) tNil)))
    (hs : swapsWith (.Call (.Attribute (.Attribute (.Name x px) fl p2) "append" apos) [e] [] cpos) none pos.line X.env = pure false := by rfl) : JS X (.Expr (.Call (.Attribute (.Attribute (.Name x px) fl p2) "append" apos) [e] [] cpos) pos) (wBuApp i n fl w) :=
  ps_le (ps_expr hb hs) fun pins s σ H D I ⟨B, G, δ, E, rel, ⟨a, l, xs, hδ, hw⟩, k⟩ => by
    obtain ⟨o, hσ, rfl, _, C', dx, vs, ha, k', hl, t⟩ := rel.at hδ
    refine ⟨B, G, δ, a, l, xs, rel, hδ, .inl ⟨rfl, _, SqL.of hl⟩, B, G, δ, _, rel, hw, fun v H1 G1 o δ1 r1 s1 rel1 ok1 => ?_⟩
    obtain ⟨G2, δ2, y, ⟨a2, l2, xs2, hδ2, rfl, hlen, q⟩, s2, rel2, dn⟩ := lk_ok rel1 ok1 r1
    obtain ⟨o2, hσ2, e2, ne2, C2, dx2, vs2, ha2, k2, hl2, t2⟩ := rel2.at hδ2
    rw [hσ] at hσ2; cases hσ2
    have ea : a = a2 := V.ref.inj (Option.some.inj e2)
    subst ea
    refine ⟨l2, vs2, v, rfl, rfl, hl2, by rw [t2.len, sizeLine_eq]; omega, ?_⟩
    refine k.nx _ _ G2 _ q (s1.trans s2) (rel2.putGx hδ2 rfl ⟨ne2, C2, dx2, _, by rw [upd_ne ne2]; exact ha2, k2, upd_same, t2.app (.cons dn .nil)⟩ (fun b hb _ => upd_ne fun z => hb (by rw [z]; simp [GX.fp])) fun b hb => .inl hb)
theorem je_buFn {p : PN} {id : String} {g : Str} {pg : Pos} (hC : PySem.W.nsIn X.K mainGlobals n = some (some (.ref C))) (hn : NoAttr X.K C fl) (hx : PE X (.Name x px) (tVar i)) (hc : CallD X (.builtin id) p) (hg : Gl X g) (hm : X.mg g = none) (hv : bootBuiltins g = some (.builtin id)) (hn2 : g ≠ "__name__" := by decide) (hdb : (g == ("__debug__" : Str)) = false := by decide)
    (hs1 : starEach [.Attribute (.Name x px) fl p2] X.env = (false, eval (.Attribute (.Name x px) fl p2) X.env) :: starEach [] X.env := by rfl) (hpl : (backTo pos (starEach [] X.env)).any (·.1) = false := by rfl) (hb : attributeBase (.Name x px) fl X.env (eval (.Name x px) X.env) = eval (.Name x px) X.env := by rfl) :
    JE X (.Call (.Name g pg) [.Attribute (.Name x px) fl p2] [] pos) (wBuFn p i n fl) :=
  pe_le (pe_callB hc hg hm hv (pa_cons (pe_buL hC hn hx hb) pa_nil hs1) hn2 hdb hs1 hpl) fun pins s σ H Q I ⟨B, G, δ, R, rel, ⟨a, l, xs, hδ, q⟩, k⟩ => by
    obtain ⟨o, hσ, rfl, _, C', dx, vs, ha, k', hl, t⟩ := rel.at hδ
    exact ⟨B, G, δ, a, l, xs, rel, hδ, B, G, δ, σ, _, _, rel, .cons (.inr ⟨l, vs, xs, rfl, rfl, hl, t⟩) .nil, q, fun v H' G' z r s1 rel1 dn => k v H' G' _ _ r s1 rel1 dn⟩
theorem je_buTy {p : PN} {T : String} {g : Str} {pg : Pos} (hC : PySem.W.nsIn X.K mainGlobals n = some (some (.ref C))) (hn : NoAttr X.K C fl) (hx : PE X (.Name x px) (tVar i)) (hc : CallD X (.type T) p) (hg : Gl X g) (hm : X.mg g = none) (hv : bootBuiltins g = some (.type T)) (hn2 : g ≠ "__name__" := by decide) (hdb : (g == ("__debug__" : Str)) = false := by decide)
    (hs1 : starEach [.Attribute (.Name x px) fl p2] X.env = (false, eval (.Attribute (.Name x px) fl p2) X.env) :: starEach [] X.env := by rfl) (hpl : (backTo pos (starEach [] X.env)).any (·.1) = false := by rfl) (hb : attributeBase (.Name x px) fl X.env (eval (.Name x px) X.env) = eval (.Name x px) X.env := by rfl) :
    JE X (.Call (.Name g pg) [.Attribute (.Name x px) fl p2] [] pos) (wBuFn p i n fl) :=
  pe_le (pe_callTy hc hg hm hv (pa_cons (pe_buL hC hn hx hb) pa_nil hs1) hn2 hdb hs1 hpl) fun pins s σ H Q I ⟨B, G, δ, R, rel, ⟨a, l, xs, hδ, q⟩, k⟩ => by
    obtain ⟨o, hσ, rfl, _, C', dx, vs, ha, k', hl, t⟩ := rel.at hδ
    exact ⟨B, G, δ, a, l, xs, rel, hδ, B, G, δ, σ, _, _, rel, .cons (.inr ⟨l, vs, xs, rfl, rfl, hl, t⟩) .nil, q, fun v H' G' z r s1 rel1 dn => k v H' G' _ _ r s1 rel1 dn⟩
end
end DL
set_option Elab.async false
set_option linter.all false
set_option maxRecDepth 100000
set_option maxHeartbeats 4000000
namespace DL
open PySem PySem.Spec PyProof.Rows L2
variable [Tb]
def iRange2W (w : DA) : DL := fun δ R => w δ fun os δ1 => useL os δ1 fun xs => rng2 xs (fun i j => (-1000000000000000000 ≤ i ∧ i ≤ 1000000000000000000 ∧ j - i ≤ 1000000 ∧ -1000000000000000000 ≤ j) ∧ R (nums i (j - i).toNat) δ1) .mk
omit [Tb] in
@[simp ↓] theorem iRange2W_ap (w : DA) (δ : DS) (R : List PyData → DS → Prop) : iRange2W w δ R = (w δ fun os δ1 => useL os δ1 fun xs => rng2 xs (fun i j => (-1000000000000000000 ≤ i ∧ i ≤ 1000000000000000000 ∧ j - i ≤ 1000000 ∧ -1000000000000000000 ≤ j) ∧ R (nums i (j - i).toNat) δ1) .mk) := rfl
end DL
set_option Elab.async false
set_option linter.all false
set_option maxRecDepth 100000
set_option maxHeartbeats 4000000
namespace TW
open PySem PySem.Spec PyProof.Rows L2 DL

mutual
/-- about as long as it is shown -/
def wgt : PyData → Nat
  | .none => 8
  | .bool _ => 8
  | .int i => i.natAbs.log2 + 9
  | .str x => (PyData.shown (.str x)).length
  | .list xs => wgtL xs + 4
  | .tuple xs => wgtL xs + 4
  | .dict _ => 4
def wgtL : List PyData → Nat
  | [] => 0
  | x :: xs => wgt x + 2 + wgtL xs
end
mutual
def okd (z : Bool) : PyData → Bool
  | .none => true
  | .bool _ => true
  | .int i => decide (i.natAbs.log2 < (if z = true then 1900 else 1800))
  | .str x => PyData.strOk x
  | .list xs => okdL z xs
  | .tuple xs => okdL z xs
  | .dict kvs => z && kvs.isEmpty
def okdL (z : Bool) : List PyData → Bool
  | [] => true
  | x :: xs => okd z x && okdL z xs
end
structure Shp (z : Bool) (n w : Nat) (d : PyData) : Prop where
  ok : okd z d = true
  dp : d.depth ≤ n
  wt : wgt d ≤ w
structure ShpL (z : Bool) (n w : Nat) (xs : List PyData) : Prop where
  ok : okdL z xs = true
  dp : PyData.depthAll xs ≤ n
  wt : wgtL xs ≤ w
theorem Shp.mono {z : Bool} {n m w v : Nat} {d : PyData} (h : Shp z n w d) (hn : n ≤ m) (hw : w ≤ v) : Shp z m v d := ⟨h.ok, Nat.le_trans h.dp hn, Nat.le_trans h.wt hw⟩
theorem ShpL.nil {z : Bool} {n : Nat} : ShpL z n 0 [] := ⟨by simp [okdL], by simp [PyData.depthAll], by simp [wgtL]⟩
theorem ShpL.cons {z : Bool} {n w v : Nat} {x : PyData} {xs : List PyData} (h : Shp z n w x) (t : ShpL z n v xs) : ShpL z n (w + 2 + v) (x :: xs) :=
  ⟨by simp [okdL, h.ok, t.ok], by have := h.dp; have := t.dp; simp [PyData.depthAll]; omega, by have := h.wt; have := t.wt; simp only [wgtL]; omega⟩
theorem ShpL.of {z : Bool} {n w : Nat} : ∀ {xs : List PyData}, (∀ x ∈ xs, Shp z n w x) → ShpL z n (xs.length * (w + 2)) xs
  | [], _ => by simpa using ShpL.nil
  | x :: xs, h => by
    have := ShpL.cons (h x (List.mem_cons_self ..)) (ShpL.of fun y hy => h y (List.mem_cons_of_mem _ hy))
    have e : w + 2 + xs.length * (w + 2) = (x :: xs).length * (w + 2) := by rw [List.length_cons, Nat.succ_mul]; omega
    rw [e] at this; exact this
theorem ShpL.map {α : Type} {z : Bool} {n w k : Nat} {as : List α} {f : α → PyData} (h : ∀ a ∈ as, Shp z n w (f a)) (hk : as.length ≤ k) : ShpL z n (k * (w + 2)) (as.map f) := by
  have := ShpL.of (xs := as.map f) (z := z) (n := n) (w := w) fun x hx => by
    obtain ⟨a, ha, rfl⟩ := List.mem_map.mp hx
    exact h a ha
  rw [List.length_map] at this
  exact ⟨this.ok, this.dp, Nat.le_trans this.wt (Nat.mul_le_mul_right _ hk)⟩
theorem ShpL.mono {z : Bool} {n m w v : Nat} {d : List PyData} (h : ShpL z n w d) (hn : n ≤ m) (hw : w ≤ v) : ShpL z m v d := ⟨h.ok, Nat.le_trans h.dp hn, Nat.le_trans h.wt hw⟩
theorem okdL_app {z : Bool} : ∀ (xs ys : List PyData), okdL z (xs ++ ys) = (okdL z xs && okdL z ys)
  | [], ys => by simp [okdL]
  | x :: xs, ys => by simp [okdL, okdL_app xs ys, Bool.and_assoc]
theorem depthAll_app : ∀ (xs ys : List PyData), PyData.depthAll (xs ++ ys) = max (PyData.depthAll xs) (PyData.depthAll ys)
  | [], ys => by simp [PyData.depthAll]
  | x :: xs, ys => by simp only [List.cons_append, PyData.depthAll, depthAll_app xs ys]; omega
theorem wgtL_app : ∀ (xs ys : List PyData), wgtL (xs ++ ys) = wgtL xs + wgtL ys
  | [], ys => by simp [wgtL]
  | x :: xs, ys => by simp [wgtL, wgtL_app xs ys]; omega
theorem ShpL.app {z : Bool} {n w v : Nat} {xs ys : List PyData} (h : ShpL z n w xs) (t : ShpL z n v ys) : ShpL z n (w + v) (xs ++ ys) :=
  ⟨by rw [okdL_app, h.ok, t.ok]; rfl, by rw [depthAll_app]; have := h.dp; have := t.dp; omega, by rw [wgtL_app]; have := h.wt; have := t.wt; omega⟩
theorem Shp.list {z : Bool} {n w : Nat} {xs : List PyData} (h : ShpL z n w xs) : Shp z (n + 1) (w + 4) (.list xs) :=
  ⟨by simp only [okd]; exact h.ok, by simp only [PyData.depth]; have := h.dp; omega, by simp only [wgt]; have := h.wt; omega⟩
theorem Shp.tuple {z : Bool} {n w : Nat} {xs : List PyData} (h : ShpL z n w xs) : Shp z (n + 1) (w + 4) (.tuple xs) :=
  ⟨by simp only [okd]; exact h.ok, by simp only [PyData.depth]; have := h.dp; omega, by simp only [wgt]; have := h.wt; omega⟩
theorem Shp.none {z : Bool} {n : Nat} : Shp z n 8 .none := ⟨by simp [okd], by simp [PyData.depth], by simp [wgt]⟩
theorem Shp.bool {z : Bool} {n : Nat} {b : Bool} : Shp z n 8 (.bool b) := ⟨by simp [okd], by simp [PyData.depth], by simp [wgt]⟩
theorem Shp.intB {z : Bool} {n k : Nat} {i : Int} (h : i.natAbs.log2 ≤ k) (hk : k < 1800) : Shp z n (k + 9) (.int i) := ⟨by simp [okd]; split <;> omega, by simp [PyData.depth], by simp [wgt]; omega⟩
theorem log_le {i : Int} {k : Nat} (h0 : -(2 ^ k) < i) (h1 : i < 2 ^ k) : i.natAbs.log2 ≤ k := by
  by_cases z : i = 0
  · subst z; simp
  · have e : ((2 ^ k : Nat) : Int) = 2 ^ k := by simp
    have : i.natAbs < 2 ^ k := by omega
    have := (Nat.log2_lt (by omega)).mpr this
    omega
theorem Shp.int64 {z : Bool} {n : Nat} {i : Int} (h0 : -(2 ^ 64) < i) (h1 : i < 2 ^ 64) : Shp z n 73 (.int i) := Shp.intB (log_le h0 h1) (by decide)
theorem Shp.str {z : Bool} {n w : Nat} {x : Str} (h : PyData.strOk x = true) (hw : (PyData.shown (.str x)).length ≤ w) : Shp z n w (.str x) := ⟨by simp [okd, h], by simp [PyData.depth], by simp only [wgt]; exact hw⟩
theorem Shp.up {n w : Nat} {d : PyData} (h : Shp false n w d) : Shp true n w d := by
  have a : ∀ xs : List PyData, (∀ x ∈ xs, okd false x = true → okd true x = true) → okdL false xs = true → okdL true xs = true := by
    intro xs
    induction xs with
    | nil => intros; simp [okdL]
    | cons x xs ih =>
      intro h k
      simp only [okdL, Bool.and_eq_true] at k ⊢
      exact ⟨h x (List.mem_cons_self ..) k.1, ih (fun y hy => h y (List.mem_cons_of_mem _ hy)) k.2⟩
  refine ⟨?_, h.dp, h.wt⟩
  have := h.ok
  clear h
  revert this
  exact PyData.rec (motive_1 := fun d => okd false d = true → okd true d = true) (motive_2 := fun xs => okdL false xs = true → okdL true xs = true) (motive_3 := fun _ => True) (motive_4 := fun _ => True)
    (by simp [okd]) (by simp [okd]) (fun i h => by simp [okd] at h ⊢; omega) (by simp [okd]) (fun xs ih h => by simp only [okd] at h ⊢; exact ih h) (fun xs ih h => by simp only [okd] at h ⊢; exact ih h) (fun kvs _ h => by simp [okd] at h)
    (by simp [okdL]) (fun x xs h1 h2 h => by simp only [okdL, Bool.and_eq_true] at h ⊢; exact ⟨h1 h.1, h2 h.2⟩) trivial (fun _ _ _ _ => trivial) (fun _ _ _ _ => trivial) d

theorem okd_lay {z : Bool} (hz : z = false) (d : PyData) : okd z d = true → d.canLay0 = true := by
  subst hz
  exact PyData.rec (motive_1 := fun d => okd false d = true → d.canLay0 = true) (motive_2 := fun xs => okdL false xs = true → PyData.canLayAll0 xs = true) (motive_3 := fun _ => True) (motive_4 := fun _ => True)
    (by simp [PyData.canLay0]) (by simp [PyData.canLay0]) (by simp [PyData.canLay0]) (by simp [okd, PyData.canLay0]) (fun xs ih h => by simp only [okd] at h; simp only [PyData.canLay0]; exact ih h) (fun xs ih h => by simp only [okd] at h; simp only [PyData.canLay0]; exact ih h) (fun kvs _ h => by simp [okd] at h)
    (by simp [PyData.canLayAll0]) (fun x xs h1 h2 h => by simp only [okdL, Bool.and_eq_true] at h; simp only [PyData.canLayAll0, Bool.and_eq_true]; exact ⟨h1 h.1, h2 h.2⟩) trivial (fun _ _ _ _ => trivial) (fun _ _ _ _ => trivial) d
theorem okd_show {z : Bool} (d : PyData) : okd z d = true → d.showable = true := by
  exact PyData.rec (motive_1 := fun d => okd z d = true → d.showable = true) (motive_2 := fun xs => okdL z xs = true → PyData.showableAll xs = true) (motive_3 := fun _ => True) (motive_4 := fun _ => True)
    (by simp [PyData.showable]) (by simp [PyData.showable]) (fun i h => by simp only [okd, decide_eq_true_eq] at h; simp only [PyData.showable, decide_eq_true_eq]; split at h <;> omega) (by simp [PyData.showable]) (fun xs ih h => by simp only [okd] at h; simp only [PyData.showable]; exact ih h) (fun xs ih h => by simp only [okd] at h; simp only [PyData.showable]; exact ih h)
    (fun kvs _ h => by
      simp only [okd, Bool.and_eq_true] at h
      have : kvs = [] := by simpa using h.2
      subst this
      simp [PyData.showable, PyData.showableKv])
    (by simp [PyData.showableAll]) (fun x xs h1 h2 h => by simp only [okdL, Bool.and_eq_true] at h; simp only [PyData.showableAll, Bool.and_eq_true]; exact ⟨h1 h.1, h2 h.2⟩) trivial (fun _ _ _ _ => trivial) (fun _ _ _ _ => trivial) d
def lens (xs : List PyData) : Nat := (xs.map fun x => x.shown.length + 2).sum
theorem piled_lens : ∀ xs : List PyData, piled (xs.map PyData.shown) = lens xs
  | [] => by simp [piled, lens]
  | x :: xs => by
    have := piled_lens xs
    simp only [List.map_cons, piled, lens, List.sum_cons] at *
    omega
theorem textFrom_lens : ∀ (xs : List PyData) (k : Nat) (acc : Str), (textFrom k acc (xs.map PyData.shown)).length ≤ acc.length + lens xs
  | [], k, acc => by simp [textFrom, lens]
  | x :: r, k, acc => by
    have ih := textFrom_lens r (k + 1) (acc ++ (if k > 0 then ", " else "" : String) ++ x.shown)
    have e : (acc ++ (if k > 0 then ", " else "" : String) ++ x.shown).length ≤ acc.length + 2 + x.shown.length := by
      rw [strLen_append, strLen_append]
      split
      · have : ((", " : String) : Str).length = 2 := rfl
        omega
      · have : (("" : String) : Str).length = 0 := rfl
        omega
    show (textFrom (k + 1) _ (r.map PyData.shown)).length ≤ _
    simp only [lens, List.map_cons, List.sum_cons] at ih ⊢
    omega
theorem okd_len {z : Bool} (d : PyData) : okd z d = true → d.shown.length ≤ wgt d := by
  refine PyData.rec (motive_1 := fun d => okd z d = true → d.shown.length ≤ wgt d) (motive_2 := fun xs => okdL z xs = true → lens xs ≤ wgtL xs) (motive_3 := fun _ => True) (motive_4 := fun _ => True)
    ?_ ?_ ?_ ?_ ?_ ?_ ?_ ?_ ?_ trivial (fun _ _ _ _ => trivial) (fun _ _ _ _ => trivial) d
  · intro _; simp only [PyData.shown, wgt]; decide
  · intro b _; cases b <;> (simp only [PyData.shown, wgt]; decide)
  · intro i h
    have := int_text_length_le (show 0 < i.natAbs.log2 + 1 by omega) (show i.natAbs.log2 < i.natAbs.log2 + 1 by omega)
    simp only [PyData.shown, wgt]
    show (Str.ofString (toString i)).length ≤ _
    rw [PySem.ofString_length]
    omega
  · intro x _; simp only [wgt]; exact Nat.le_refl _
  · intro xs ih h
    have ih := ih (by simpa only [okd] using h)
    simp only [PyData.shown, shownAll_map, wgt]
    unfold listText
    rw [strLen_append]
    have q := textFrom_lens xs 0 "["
    have e1 : (("[" : String) : Str).length = 1 := rfl
    have e2 : (("]" : String) : Str).length = 1 := rfl
    omega
  · intro xs ih h
    have ih := ih (by simpa only [okd] using h)
    simp only [PyData.shown, shownAll_map, wgt]
    unfold tupleText
    rw [strLen_append, strLen_append]
    have e1 : (("(" : String) : Str).length = 1 := rfl
    have e2 : ((if (xs.map PyData.shown).length == 1 then ",)" else ")" : String) : Str).length ≤ 2 := by split <;> decide
    have j : (Str.join ", " (xs.map PyData.shown)).length ≤ piled (xs.map PyData.shown) := by
      by_cases z : xs.map PyData.shown = []
      · rw [z]; decide
      · have := join_length_add _ z; omega
    rw [piled_lens] at j
    omega
  · intro kvs _ h
    simp only [okd, Bool.and_eq_true] at h
    have : kvs = [] := by simpa using h.2
    subst this
    simp only [PyData.shown, wgt]
    decide
  · intro _; simp [lens, wgtL]
  · intro x xs h1 h2 h
    simp only [okdL, Bool.and_eq_true] at h
    have h1 := h1 h.1
    have h2 := h2 h.2
    simp only [lens, List.map_cons, List.sum_cons, wgtL] at *
    omega
theorem Shp.shaped {n w : Nat} {d : PyData} (h : Shp false n w d) (hn : n ≤ 60 := by decide) : SeqAt.shaped d = true := by
  have := okd_lay rfl d h.ok
  simp only [SeqAt.shaped, this, Bool.true_and, decide_eq_true_eq]
  have := h.dp
  omega
theorem Shp.repr {z : Bool} {n w : Nat} {d : PyData} {X : Prop} (h : Shp z n w d) (k : X) (hn : n ≤ 60 := by decide) (hw : w ≤ 16000000 := by decide) : d.showable = true ∧ d.depth ≤ 60 ∧ d.shown.length ≤ 16000000 ∧ X :=
  ⟨okd_show d h.ok, Nat.le_trans h.dp hn, Nat.le_trans (okd_len d h.ok) (Nat.le_trans h.wt hw), k⟩
theorem okdL_iff {z : Bool} : ∀ {xs : List PyData}, okdL z xs = true ↔ ∀ x ∈ xs, okd z x = true
  | [] => by simp [okdL]
  | x :: xs => by simp [okdL, okdL_iff (xs := xs)]
theorem depthL_iff {n : Nat} : ∀ {xs : List PyData}, PyData.depthAll xs ≤ n ↔ ∀ x ∈ xs, x.depth ≤ n
  | [] => by simp [PyData.depthAll]
  | x :: xs => by
    simp only [PyData.depthAll, List.forall_mem_cons, ← depthL_iff (xs := xs)]
    omega
theorem wgtL_mem : ∀ {xs : List PyData} {x : PyData}, x ∈ xs → wgt x + 2 ≤ wgtL xs
  | y :: ys, x, h => by
    simp only [wgtL]
    rcases List.mem_cons.mp h with rfl | h
    · omega
    · have := wgtL_mem h; omega
theorem wgtL_take : ∀ (xs : List PyData) (n : Nat), wgtL (xs.take n) ≤ wgtL xs
  | [], n => by simp
  | x :: xs, 0 => by simp [wgtL]
  | x :: xs, n + 1 => by have := wgtL_take xs n; simp only [List.take_succ_cons, wgtL]; omega
theorem wgtL_drop : ∀ (xs : List PyData) (n : Nat), wgtL (xs.drop n) ≤ wgtL xs
  | [], n => by simp
  | x :: xs, 0 => by simp
  | x :: xs, n + 1 => by have := wgtL_drop xs n; simp only [List.drop_succ_cons, wgtL]; omega
theorem ShpL.part {z : Bool} {n w : Nat} {xs ys : List PyData} (h : ShpL z n w xs) (hm : ∀ y ∈ ys, y ∈ xs) (hw : wgtL ys ≤ wgtL xs) : ShpL z n w ys :=
  ⟨okdL_iff.mpr fun y hy => okdL_iff.mp h.ok y (hm y hy), depthL_iff.mpr fun y hy => depthL_iff.mp h.dp y (hm y hy), Nat.le_trans hw h.wt⟩
theorem ShpL.take {z : Bool} {n w : Nat} {xs : List PyData} (h : ShpL z n w xs) (k : Nat) : ShpL z n w (xs.take k) := h.part (fun _ hy => List.mem_of_mem_take hy) (wgtL_take _ _)
theorem ShpL.drop {z : Bool} {n w : Nat} {xs : List PyData} (h : ShpL z n w xs) (k : Nat) : ShpL z n w (xs.drop k) := h.part (fun _ hy => List.mem_of_mem_drop hy) (wgtL_drop _ _)
theorem ShpL.cut {z : Bool} {n w : Nat} {xs : List PyData} (h : ShpL z n w xs) (lo hi : Option Int) : ShpL z n w (DL.cutD xs lo hi) := by
  unfold DL.cutD
  exact (h.drop _).take _
theorem ShpL.mem {z : Bool} {n w : Nat} {xs : List PyData} (h : ShpL z n w xs) {x : PyData} (hx : x ∈ xs) : Shp z n w x :=
  ⟨okdL_iff.mp h.ok x hx, depthL_iff.mp h.dp x hx, by have := wgtL_mem hx; have := h.wt; omega⟩
theorem Shp.items {z : Bool} {n w : Nat} {xs : List PyData} (h : Shp z (n + 1) w (.tuple xs)) : ShpL z n w xs :=
  ⟨by have := h.ok; simpa only [okd] using this, by have := h.dp; simp only [PyData.depth] at this; omega, by have := h.wt; simp only [wgt] at this; omega⟩
theorem Shp.pos {z : Bool} {n w : Nat} {xs : List PyData} (h : Shp z n w (.tuple xs)) : ∃ m, n = m + 1 := by
  have := h.dp
  simp only [PyData.depth] at this
  exact ⟨n - 1, by omega⟩
theorem ShpL.up {n w : Nat} {xs : List PyData} (h : ShpL false n w xs) : ShpL true n w xs :=
  ⟨okdL_iff.mpr fun x hx => (Shp.up (h.mem hx)).ok, h.dp, h.wt⟩
theorem Shp.text {z : Bool} {n k : Nat} {x : Str} (h : PyData.strOk x = true) (hk : x.length ≤ k) : Shp z n (10 * k + 2) (.str x) := by
  refine Shp.str h ?_
  have h2 : ∀ c ∈ x.cps.toList, c < 16 ^ 8 := fun c hc => by
    unfold PyData.strOk at h
    rw [← Array.all_toList, List.all_eq_true] at h
    have := h c hc
    simp only [decide_eq_true_eq] at this
    omega
  have := StrLaws.reprText_len x h2
  simp only [PyData.shown]
  omega
end TW
set_option Elab.async false
set_option linter.all false
set_option maxRecDepth 100000
set_option maxHeartbeats 4000000
namespace TW
open PySem PySem.Spec PyProof.Rows L2 DL
/-- a loop over what is numbered -/
theorem for_enumd {α : Type} {g : DTG} {b : DTS} {δ : DS} {E : DEnds} {u : Stop E} (as : List α) (d : α → PyData) (xs : List PyData) (hx : xs = numbered 0 (as.map d)) (P : Nat → DS → Prop) (h : P 0 δ) (h0 : ∀ δ, P as.length δ → E.nx δ)
    (hs : ∀ (i : Nat) (hi : i < as.length) (x : α) δ, as[i] = x → P i δ → ∀ (K B : DS → Prop) (T : PyData → DS → Prop), (∀ δ', P (i + 1) δ' → K δ') → g (.tuple [.int (i : Int), d x]) δ fun δ1 => b { nx := K, rt := T, bk := B, ct := K } δ1) : forC g b xs δ E u := by
  subst hx
  refine for_inv (fun ys δ' => ∃ i, i ≤ as.length ∧ ys = numbered i ((as.drop i).map d) ∧ P i δ') (fun _ => False) (fun _ _ => False) ⟨0, by omega, by simp, h⟩ ?_ (fun _ h => h.elim) (fun _ _ h => h.elim) ?_
  · rintro δ ⟨i, hi, hb, p⟩
    have : i = as.length := by
      have := congrArg List.length hb
      rw [numbered_len] at this
      simp at this; omega
    subst this
    exact h0 δ p
  · rintro y ys δ ⟨i, hi, hb, p⟩ K B T hK _ _
    have lt : i < as.length := by
      have := congrArg List.length hb
      rw [numbered_len] at this
      simp at this; omega
    rw [List.drop_eq_getElem_cons lt, List.map_cons] at hb
    obtain ⟨rfl, rfl⟩ := List.cons.inj hb
    exact hs i lt _ δ rfl p K B T fun δ' p' => hK δ' ⟨i + 1, by omega, rfl, p'⟩
end TW
set_option Elab.async false
set_option linter.all false
set_option maxRecDepth 100000
set_option maxHeartbeats 4000000
namespace TW
open PySem PySem.Spec PyProof.Rows L2 DL
def nF : List Nat → Nat → Nat
  | [], f => if f = 0 then 1 else 0
  | m :: ms, f => nF ms f + if m &&& f = m then nF ms (f ^^^ m) else 0
end TW
set_option Elab.async false
set_option linter.all false
set_option maxRecDepth 100000
set_option maxHeartbeats 4000000
namespace TW
open PySem PySem.Spec PyProof.Rows L2 DL

def BIG : Int := 2 ^ 4000
theorem BIG_nat : BIG.natAbs = 2 ^ 4000 := by decide +kernel
theorem BIG_ge : 10 ^ 60 ≤ BIG := by decide +kernel
theorem log_big {i : Int} (h : i.natAbs ≤ BIG.natAbs) : i.natAbs.log2 ≤ 4000 := by
  rw [BIG_nat] at h
  by_cases h0 : i.natAbs = 0
  · rw [h0]; decide
  · have : i.natAbs.log2 < 4001 := (Nat.log2_lt h0).mpr (Nat.lt_of_le_of_lt h (Nat.pow_lt_pow_right (by decide) (by decide)))
    omega
theorem abs_big {i : Int} (h0 : -BIG ≤ i) (h1 : i ≤ BIG) : i.natAbs ≤ BIG.natAbs := by
  have := BIG_ge
  omega
theorem mul_big {i j : Int} (h0 : -BIG ≤ i) (h1 : i ≤ BIG) (h2 : -BIG ≤ j) (h3 : j ≤ BIG) : CMul i j ∨ CMulW i j := by
  refine .inr ?_
  have a := log_big (abs_big h0 h1)
  have b := log_big (abs_big h2 h3)
  unfold CMulW
  omega
theorem div_big {j : Int} (h0 : 0 < j) (h1 : j ≤ BIG) : 0 < j ∧ j.natAbs.log2 < 9000 := by
  have b := log_big (abs_big (i := j) (by omega) h1)
  exact ⟨h0, by omega⟩
/-- a side, a number of any use -/
def Pos (x : Int) : Prop := 1 ≤ x ∧ x ≤ BIG
theorem Pos.div {j : Int} (h : Pos j) : 0 < j ∧ j.natAbs.log2 < 9000 := div_big (by have := h.1; omega) h.2
theorem Pos.of {x : Int} (h : 1 ≤ x) (h1 : x ≤ 10 ^ 60) : Pos x := ⟨h, by have := BIG_ge; omega⟩

def gcdI (a b : Int) : Int := (Int.gcd a b : Nat)
theorem gcd_step {x y : Int} : gcdI y (x % y) = gcdI x y := by
  unfold gcdI
  congr 1
  rw [Int.gcd_comm x y]
  have : x % y = x - y * (x / y) := by have := Int.mul_ediv_add_emod x y; omega
  rw [this, Int.gcd_comm, Int.mul_comm, Int.gcd_sub_mul_right_left, Int.gcd_comm]
theorem gcd_le {a b : Int} (ha : 1 ≤ a) : 1 ≤ gcdI a b ∧ gcdI a b ≤ a := by
  have h1 : (Int.gcd a b : Int) ∣ a := Int.gcd_dvd_left ..
  have h0 : 0 < Int.gcd a b := Int.gcd_pos_of_ne_zero_left _ (by omega)
  have := Int.le_of_dvd (by omega) h1
  unfold gcdI
  omega
theorem gcd_dvd_l (a b : Int) : gcdI a b ∣ a := Int.gcd_dvd_left ..
theorem gcd_dvd_r (a b : Int) : gcdI a b ∣ b := Int.gcd_dvd_right ..
theorem gcdI_comm (a b : Int) : gcdI a b = gcdI b a := by unfold gcdI; rw [Int.gcd_comm]
def invGo : Nat → Int → Int → Int → Int → Int
  | 0, _, _, _, later => later
  | f + 1, left, right, now, later => if left > 0 then invGo f (right - right / left * left) left (later - right / left * now) now else later
def invF (a b : Int) : Int := invGo (a % b).toNat.succ (a % b) b 1 0 % b
theorem sub_div (r l : Int) : r - r / l * l = r % l := by have := Int.mul_ediv_add_emod r l; rw [Int.mul_comm l] at this; omega
theorem inv_go {a b : Int} : ∀ (f : Nat) (l r n t : Int), 0 ≤ l → 0 ≤ r → l.toNat < f → b ∣ l - n * a → b ∣ r - t * a → gcdI l r = 1 → b ∣ 1 - invGo f l r n t * a
  | 0, l, r, n, t, _, _, h, _, _, _ => by omega
  | f + 1, l, r, n, t, h0, h1, hf, d1, d2, hg => by
    unfold invGo
    split
    · rename_i hl
      refine inv_go f _ _ _ _ ?_ h0 ?_ ?_ d1 ?_
      · rw [sub_div]; exact Int.emod_nonneg _ (by omega)
      · rw [sub_div]
        have := Int.emod_lt_of_pos r hl
        have := Int.emod_nonneg r (show l ≠ 0 by omega)
        omega
      · have e : r - r / l * l - (t - r / l * n) * a = (r - t * a) - r / l * (l - n * a) := by
          generalize r / l = q
          rw [Int.sub_mul, Int.mul_sub, Int.mul_assoc]; omega
        rw [e]
        exact Int.dvd_sub d2 (Int.dvd_mul_of_dvd_right d1)
      · rw [sub_div, gcdI_comm, gcd_step, gcdI_comm, hg]
    · rename_i hl
      have : l = 0 := by omega
      subst this
      have : r = 1 := by unfold gcdI at hg; simp at hg; omega
      subst this
      exact d2
theorem inv_ok {a b : Int} (hb : 1 ≤ b) (hg : gcdI a b = 1) : 0 ≤ invF a b ∧ invF a b < b ∧ b ∣ 1 - invF a b * a := by
  unfold invF
  refine ⟨Int.emod_nonneg _ (by omega), Int.emod_lt_of_pos _ (by omega), ?_⟩
  have h0 : 0 ≤ a % b := Int.emod_nonneg _ (by omega)
  have h := inv_go (a := a) (b := b) (a % b).toNat.succ (a % b) b 1 0 h0 (by omega) (by omega) ?_ ?_ ?_
  · generalize invGo _ _ _ _ _ = v at h
    have e : 1 - v % b * a = (1 - v * a) + b * (v / b * a) := by
      have := Int.mul_ediv_add_emod v b
      have e2 : v * a = (b * (v / b) + v % b) * a := by rw [this]
      rw [Int.add_mul, Int.mul_assoc] at e2
      omega
    rw [e]
    exact Int.dvd_add h (Int.dvd_mul_right ..)
  · rw [Int.one_mul]
    have : a % b - a = b * (-(a / b)) := by
      have := Int.mul_ediv_add_emod a b
      rw [Int.mul_neg]; omega
    rw [this]; exact Int.dvd_mul_right ..
  · simp
  · rw [gcdI_comm, gcd_step, hg]
def timesF (a b s : Int) : Option Int := if s % gcdI a b ≠ 0 then none else some (s / gcdI a b * invF (a / gcdI a b) (b / gcdI a b) % (b / gcdI a b))
theorem gcd_parts {a b : Int} (ha : 1 ≤ a) : gcdI (a / gcdI a b) (b / gcdI a b) = 1 := by
  have := gcd_le (b := b) ha
  unfold gcdI at this ⊢
  have h := Int.gcd_ediv_gcd_ediv_gcd (i := a) (j := b) (by omega)
  omega
theorem mul_cancel_dvd {g x y : Int} (hg : g ≠ 0) (h : g * x ∣ g * y) : x ∣ y := by
  obtain ⟨k, hk⟩ := h
  exact ⟨k, Int.eq_of_mul_eq_mul_left hg (by rw [hk, Int.mul_assoc])⟩
theorem dvd_of_coprime {a b c : Int} (hb : 1 ≤ b) (hg : gcdI a b = 1) (h : b ∣ a * c) : b ∣ c := by
  obtain ⟨_, _, d⟩ := inv_ok hb hg
  have e : c = (1 - invF a b * a) * c + invF a b * (a * c) := by
    rw [Int.sub_mul, Int.one_mul, Int.mul_assoc]; omega
  rw [e]
  exact Int.dvd_add (Int.dvd_mul_of_dvd_left d) (Int.dvd_mul_of_dvd_right h)
theorem times_none {a b s : Int} : timesF a b s = none ↔ ¬ gcdI a b ∣ s := by
  unfold timesF
  rw [Int.dvd_iff_emod_eq_zero]
  by_cases h : s % gcdI a b = 0 <;> simp [h]
/-- what is told as the least number of times -/
theorem times_some {a b s t : Int} (ha : 1 ≤ a) (hb : 1 ≤ b) (h : timesF a b s = some t) : gcdI a b ∣ s ∧ 0 ≤ t ∧ t < b / gcdI a b ∧ b ∣ s - a * t := by
  unfold timesF at h
  split at h
  · cases h
  rename_i hs
  have hs : gcdI a b ∣ s := Int.dvd_of_emod_eq_zero (by simpa using hs)
  have h := Option.some.inj h
  obtain ⟨g0, g1⟩ := gcd_le (b := b) ha
  have gp := gcd_parts (b := b) ha
  obtain ⟨a', ea⟩ := gcd_dvd_l a b
  obtain ⟨b', eb⟩ := gcd_dvd_r a b
  obtain ⟨s', es⟩ := hs
  generalize gcdI a b = g at *
  have qa : a / g = a' := by rw [ea]; exact Int.mul_ediv_cancel_left _ (by omega)
  have qb : b / g = b' := by rw [eb]; exact Int.mul_ediv_cancel_left _ (by omega)
  have qs : s / g = s' := by rw [es]; exact Int.mul_ediv_cancel_left _ (by omega)
  rw [qa, qb] at gp
  rw [qa, qb, qs] at h
  have hb' : 1 ≤ b' := by
    have : 0 < b' := Int.pos_of_mul_pos_right (a := g) (b := b') (by rw [← eb]; omega) (by omega)
    omega
  obtain ⟨i0, i1, di⟩ := inv_ok hb' gp
  rw [qb]
  refine ⟨⟨s', es⟩, by rw [← h]; exact Int.emod_nonneg _ (by omega), by rw [← h]; exact Int.emod_lt_of_pos _ (by omega), ?_⟩
  rw [ea, eb, es, ← h]
  have e : g * s' - g * a' * (s' * invF a' b' % b') = g * ((1 - invF a' b' * a') * s' + b' * (a' * (s' * invF a' b' / b'))) := by
    have := Int.mul_ediv_add_emod (s' * invF a' b') b'
    generalize s' * invF a' b' / b' = q at *
    generalize s' * invF a' b' % b' = r at *
    have : r = s' * invF a' b' - b' * q := by omega
    rw [this]
    generalize invF a' b' = v
    simp only [Int.mul_sub, Int.mul_add, Int.sub_mul, Int.one_mul, Int.mul_assoc]
    have x1 : g * (a' * (s' * v)) = g * (v * (a' * s')) := by
      rw [Int.mul_comm s' v, Int.mul_left_comm a' v s']
    have x2 : g * (a' * (b' * q)) = g * (b' * (a' * q)) := by rw [Int.mul_left_comm a' b' q]
    omega
  rw [e]
  exact Int.mul_dvd_mul_left g (Int.dvd_add (Int.dvd_mul_of_dvd_left di) (Int.dvd_mul_right ..))
/-- .. and that is the least one -/
theorem times_least {a b s t x : Int} (ha : 1 ≤ a) (hb : 1 ≤ b) (h : timesF a b s = some t) (h0 : 0 ≤ x) (hx : b ∣ s - a * x) : t ≤ x ∧ (b / gcdI a b) ∣ x - t := by
  obtain ⟨hs, t0, t1, dt⟩ := times_some ha hb h
  obtain ⟨g0, g1⟩ := gcd_le (b := b) ha
  have gp := gcd_parts (b := b) ha
  obtain ⟨a', ea⟩ := gcd_dvd_l a b
  obtain ⟨b', eb⟩ := gcd_dvd_r a b
  generalize gcdI a b = g at *
  have qa : a / g = a' := by rw [ea]; exact Int.mul_ediv_cancel_left _ (by omega)
  have qb : b / g = b' := by rw [eb]; exact Int.mul_ediv_cancel_left _ (by omega)
  rw [qa, qb] at gp
  rw [qb] at t1 ⊢
  have hb' : 1 ≤ b' := by omega
  have d : b ∣ a * (x - t) := by
    have := Int.dvd_sub dt hx
    have e : s - a * t - (s - a * x) = a * (x - t) := by rw [Int.mul_sub]; omega
    rwa [e] at this
  rw [ea, eb, Int.mul_assoc] at d
  have d' := dvd_of_coprime hb' gp (mul_cancel_dvd (by omega) d)
  refine ⟨?_, d'⟩
  obtain ⟨k, hk⟩ := d'
  by_cases c : t ≤ x
  · exact c
  · exfalso
    have hk0 : k < 0 := by
      by_cases q : 0 ≤ k
      · have := Int.mul_nonneg (show 0 ≤ b' by omega) q
        omega
      · omega
    have : b' * k ≤ b' * (-1) := Int.mul_le_mul_of_nonneg_left (by omega) (by omega)
    omega
/-- is a side a sum of some of both -/
def isSum (a b s : Int) : Bool := match timesF a b s with
  | some t => decide (a * t ≤ s)
  | none => false
theorem isSum_iff {a b s : Int} (ha : 1 ≤ a) (hb : 1 ≤ b) : isSum a b s = true ↔ ∃ x y : Int, 0 ≤ x ∧ 0 ≤ y ∧ a * x + b * y = s := by
  unfold isSum
  cases h : timesF a b s with
  | none =>
    rw [times_none] at h
    simp only [Bool.false_eq_true, false_iff]
    rintro ⟨x, y, _, _, rfl⟩
    exact h (Int.dvd_add (Int.dvd_mul_of_dvd_left (gcd_dvd_l ..)) (Int.dvd_mul_of_dvd_left (gcd_dvd_r ..)))
  | some t =>
    obtain ⟨hs, t0, t1, dt⟩ := times_some ha hb h
    simp only [decide_eq_true_eq]
    constructor
    · intro hle
      obtain ⟨y, hy⟩ := dt
      refine ⟨t, y, t0, ?_, by omega⟩
      by_cases q : 0 ≤ y
      · exact q
      · have : b * y ≤ b * (-1) := Int.mul_le_mul_of_nonneg_left (by omega) (by omega)
        omega
    · rintro ⟨x, y, hx, hy, rfl⟩
      have q := (times_least ha hb h hx ⟨y, by omega⟩).1
      have := Int.mul_le_mul_of_nonneg_left q (show 0 ≤ a by omega)
      have := Int.mul_nonneg (show 0 ≤ b by omega) hy
      omega
end TW
set_option Elab.async false
set_option linter.all false
set_option maxRecDepth 100000
set_option maxHeartbeats 4000000
namespace TW
open PySem PySem.Spec PyProof.Rows L2 DL

abbrev lI (ns : List Int) : List PyData := ns.map PyData.int
abbrev tI (ns : List Int) : PyData := .tuple (lI ns)
abbrev lN (ns : List Nat) : List PyData := ns.map fun (i : Nat) => PyData.int (i : Int)
abbrev prD (a b : List Int) : PyData := .tuple [tI a, tI b]
/-- the item at a place -/
def gi (ns : List Int) (i : Nat) : Int := ns[i]?.getD 1
theorem gi_at {ns : List Int} {i : Nat} (h : i < ns.length) : ns[i]? = some (gi ns i) := by
  unfold gi; rw [List.getElem?_eq_getElem h]; rfl
theorem gi_mem {ns : List Int} {i : Nat} (h : i < ns.length) : gi ns i ∈ ns := by
  have := gi_at h
  exact List.mem_of_getElem? this
@[simp] theorem gi_cons0 (x : Int) (xs : List Int) : gi (x :: xs) 0 = x := rfl
@[simp] theorem gi_consS (x : Int) (xs : List Int) (i : Nat) : gi (x :: xs) (i + 1) = gi xs i := by simp [gi]
@[simp] theorem gi_cons1 (x : Int) (xs : List Int) : gi (x :: xs) 1 = gi xs 0 := by simp [gi]
theorem range_gi (ns : List Int) : (List.range ns.length).map (gi ns) = ns := by
  apply List.ext_getElem?
  intro i
  by_cases h : i < ns.length
  · rw [List.getElem?_map, List.getElem?_range h, gi_at h]; rfl
  · rw [List.getElem?_eq_none (by simp; omega), List.getElem?_eq_none (by omega)]
theorem numbered_gi (ns : List Int) : numbered 0 (lI ns) = (List.range ns.length).map fun (i : Nat) => .tuple [.int (i : Int), .int (gi ns i)] := by
  rw [numbered_zip]
  apply List.ext_getElem?
  intro i
  by_cases h : i < ns.length
  · have e : ns[i]? = some ns[i] := List.getElem?_eq_getElem h
    rw [List.getElem?_map, List.getElem?_map, List.getElem?_range h, List.getElem?_zipIdx, e]
    have := gi_at h
    rw [e] at this
    simp [Option.some.inj this]
  · rw [List.getElem?_eq_none (by simp; omega), List.getElem?_eq_none (by simp; omega)]
theorem zip_gi {as bs : List Int} (h : as.length = bs.length) : as.zip bs = (List.range as.length).map fun i => (gi as i, gi bs i) := by
  apply List.ext_getElem?
  intro i
  by_cases hi : i < as.length
  · have e : (as.zip bs)[i]? = some (gi as i, gi bs i) := List.getElem?_zip_eq_some.mpr ⟨gi_at hi, gi_at (by omega)⟩
    rw [List.getElem?_map, List.getElem?_range hi, e]; rfl
  · rw [List.getElem?_eq_none (by simp; omega), List.getElem?_eq_none (by simp; omega)]
theorem gi_ext {as bs : List Int} (hl : as.length = bs.length) (h : ∀ i, i < as.length → gi as i = gi bs i) : as = bs := by
  rw [← range_gi as, ← range_gi bs, ← hl]
  exact List.map_congr_left fun i hi => h i (List.mem_range.mp hi)
theorem gi_range {n i : Nat} {f : Nat → Int} (h : i < n) : gi ((List.range n).map f) i = f i := by
  have := gi_at (ns := (List.range n).map f) (i := i) (by simpa using h)
  rw [List.getElem?_map, List.getElem?_range h] at this
  exact (Option.some.inj this).symm
theorem fm_map {α β : Type} (p : α → Bool) (f : α → β) (as : List α) : as.filterMap (fun a => if p a = true then some (f a) else none) = (as.filter p).map f := by
  induction as with
  | nil => rfl
  | cons a as ih => by_cases h : p a = true <;> simp [h, ih]
theorem shp_ints {z : Bool} {k L : Nat} {ns : List Int} (hl : ns.length ≤ L) (h : ∀ x ∈ ns, x.natAbs.log2 ≤ k) (hk : k < 1800 := by decide) : ShpL z 0 (L * (k + 9 + 2)) (lI ns) := ShpL.map (fun a ha => Shp.intB (h a ha) hk) hl
theorem shaped_nats (ns : List Nat) : SeqAt.shaped (.list (lN ns)) = true := by
  have := shaped_ints (ns.map fun (i : Nat) => (i : Int))
  rw [List.map_map] at this; exact this
theorem eqv_nats (ns : List Nat) : PyData.eqvAll (lN ns) [] = ns.isEmpty := by
  cases ns <;> simp [PyData.eqvAll]
theorem shaped_nil : SeqAt.shaped (.list []) = true := by decide
theorem nums_succ (lo : Int) (n : Nat) : nums lo (n + 1) = .int lo :: nums (lo + 1) n := by
  rw [nums_map, nums_map, List.range_succ_eq_map, List.map_cons, List.map_map]
  congr 1
  · simp
  · apply List.map_congr_left; intro i _; simp; omega
theorem for_cntZ {g : DTG} {b : DTS} {δ : DS} {E : DEnds} {u : Stop E} (lo : Int) (n : Nat) (P : Nat → DS → Prop) (Q : DS → Prop) (Z : PyData → DS → Prop) (h : P 0 δ) (h0 : ∀ δ, P n δ → E.nx δ) (hq : ∀ δ, Q δ → E.nx δ) (hz : ∀ x δ, Z x δ → E.rt x δ)
    (hs : ∀ i δ, i < n → P i δ → ∀ (K B : DS → Prop) (T : PyData → DS → Prop), (∀ δ', P (i + 1) δ' → K δ') → (∀ δ', Q δ' → B δ') → (∀ x δ', Z x δ' → T x δ') → g (.int (lo + (i : Int))) δ fun δ1 => b { nx := K, rt := T, bk := B, ct := K } δ1) : forC g b (nums lo n) δ E u := by
  refine for_inv (fun xs δ => ∃ i, i ≤ n ∧ xs = nums (lo + (i : Int)) (n - i) ∧ P i δ) Q Z ⟨0, by omega, by simp, h⟩ ?_ hq hz ?_
  · rintro δ ⟨i, hi, hx, hp⟩
    have : i = n := by
      have := congrArg List.length hx
      simp [nums] at this; omega
    subst this
    exact h0 δ hp
  · rintro x xs δ ⟨i, hi, hx, hp⟩ K B T hK hB hT
    have hlt : i < n := by
      have := congrArg List.length hx
      simp [nums] at this; omega
    rw [show n - i = (n - i - 1) + 1 by omega, nums_succ, List.cons.injEq] at hx
    obtain ⟨rfl, rfl⟩ := hx
    refine hs i δ hlt hp K B T (fun δ' hp' => hK δ' ⟨i + 1, by omega, ?_, hp'⟩) hB hT
    congr 1
    omega
theorem for_cnt {g : DTG} {b : DTS} {δ : DS} {E : DEnds} {u : Stop E} (lo : Int) (n : Nat) (P : Nat → DS → Prop) (h : P 0 δ) (h0 : ∀ δ, P n δ → E.nx δ)
    (hs : ∀ i δ, i < n → P i δ → ∀ (K B : DS → Prop) (T : PyData → DS → Prop), (∀ δ', P (i + 1) δ' → K δ') → g (.int (lo + (i : Int))) δ fun δ1 => b { nx := K, rt := T, bk := B, ct := K } δ1) : forC g b (nums lo n) δ E u :=
  for_cntZ lo n P (fun _ => False) (fun _ _ => False) h h0 (fun _ h => h.elim) (fun _ _ h => h.elim) fun i δ hi hp K B T hK _ _ => hs i δ hi hp K B T hK
theorem for_nil {g : DTG} {b : DTS} {δ : DS} {E : DEnds} {u : Stop E} : forC g b [] δ E u = E.nx δ := rfl
def forK (g : DTG) (b : DTS) (xs : List PyData) (E : DEnds) : DS → Prop := fun δ => forC g b xs δ E .mk
theorem forK_ap (g : DTG) (b : DTS) (xs : List PyData) (E : DEnds) (δ : DS) : forK g b xs E δ = forC g b xs δ E .mk := rfl
theorem for_cons {g : DTG} {b : DTS} {x : PyData} {xs : List PyData} {δ : DS} {E : DEnds} {u : Stop E} : forC g b (x :: xs) δ E u = (g x δ fun δ1 => b { nx := forK g b xs E, rt := E.rt, bk := E.nx, ct := forK g b xs E } δ1) := rfl
/-- the item at a place -/
def gd (ds : List PyData) (i : Nat) : PyData := ds[i]?.getD .none
theorem gd_at {ds : List PyData} {i : Nat} (h : i < ds.length) : ds[i]? = some (gd ds i) := by
  unfold gd; rw [List.getElem?_eq_getElem h]; rfl
end TW
set_option Elab.async false
set_option linter.all false
set_option maxRecDepth 100000
set_option maxHeartbeats 4000000
namespace TW
open PySem PySem.Spec PyProof.Rows L2 DL
def sp_common : DSp := fun cs R => ∃ a b, cs = [.d (.int a), .d (.int b)] ∧ 0 ≤ a ∧ 0 ≤ b ∧ R (.int (gcdI a b)) cs
def sp_inverse : DSp := fun cs R => ∃ a b, cs = [.d (.int a), .d (.int b)] ∧ Pos b ∧ R (.int (invF a b)) cs
def optI : Option Int → PyData
  | some x => .int x
  | none => .none
@[simp] theorem optI_some (x : Int) : optI (some x) = .int x := rfl
@[simp] theorem optI_none : optI none = .none := rfl
def sp_least_times : DSp := fun cs R => ∃ a b s, cs = [.d (.int a), .d (.int b), .d (.int s)] ∧ Pos a ∧ Pos b ∧ -BIG ≤ s ∧ s ≤ BIG ∧ R (optI (timesF a b s)) cs
/-- the axes that are not divided -/
def restsF (br bx : List Int) : List Nat := (List.range bx.length).filter fun i => !decide (gi bx i % gi br i = 0)
def sp_rests : DSp := fun cs R => ∃ br bx : List Int, cs = [.d (tI br), .d (tI bx)] ∧ bx.length ≤ br.length ∧ (∀ x ∈ br, 1 ≤ x) ∧ R (.list (lN (restsF br bx))) cs
/-- a pair and a box of one kind -/
structure PB (a b bx : List Int) : Prop where
  la : a.length = bx.length
  lb : b.length = bx.length
  l0 : 0 < bx.length
  l1 : bx.length ≤ 10
  pa : ∀ x ∈ a, Pos x
  pb : ∀ x ∈ b, Pos x
  px : ∀ x ∈ bx, Pos x
def barF (a b s : Int) (ax : Nat) : PyData := match timesF a b s with
  | none => .tuple [.str "step", .int (ax : Int)]
  | some t => if a * t - s > 0 then .tuple [.str "gap", .int (ax : Int), .int t, .int ((a * t - s) / b)] else .none
def barD (a b bx : List Int) (ax : Nat) : PyData := barF (gi a ax) (gi b ax) (gi bx ax) ax
def sp_bar_along : DSp := fun cs R => ∃ a b bx ax, cs = [.d (prD a b), .d (tI bx), .d (.int (ax : Nat))] ∧ PB a b bx ∧ ax < bx.length ∧ R (barD a b bx ax) cs
def crossF (a b bx : List Int) : List (Nat × Nat) := (restsF a bx).flatMap fun i => ((restsF b bx).filter fun j => !decide (i = j)).map fun j => (i, j)
def crD (p : Nat × Nat) : PyData := .tuple [.str "sides", .int (p.1 : Int), .int (p.2 : Int)]
def sp_crossing : DSp := fun cs R => ∃ a b bx, cs = [.d (prD a b), .d (tI bx)] ∧ PB a b bx ∧ R (.list ((crossF a b bx).map crD)) cs
def paperF (a b bx : List Int) : PyData :=
  if restsF a bx = [] then .tuple [.str "cut", .int 0, .int 0, .int (gi bx 0)]
  else if restsF b bx = [] then .tuple [.str "cut", .int 1, .int 0, .int (gi bx 0)]
  else match crossF a b bx with
    | p :: _ => crD p
    | [] => match (restsF a bx).headD 0 with
      | ax => match barD a b bx ax with
        | .none => .tuple [.str "cut", .int 0, .int (ax : Int), .int (gi a ax * (timesF (gi a ax) (gi b ax) (gi bx ax)).getD 0)]
        | d => d
def sp_paper : DSp := fun cs R => ∃ a b bx, cs = [.d (prD a b), .d (tI bx)] ∧ PB a b bx ∧ R (paperF a b bx) cs
/-- is a box filled -/
def fillB (a b bx : List Int) : Bool :=
  (restsF a bx).isEmpty || (restsF b bx).isEmpty || (decide (restsF a bx = restsF b bx) && decide ((restsF a bx).length = 1) && isSum (gi a ((restsF a bx).headD 0)) (gi b ((restsF a bx).headD 0)) (gi bx ((restsF a bx).headD 0)))
def sp_is_filled : DSp := fun cs R => ∃ a b bx, cs = [.d (prD a b), .d (tI bx)] ∧ PB a b bx ∧ R (.bool (fillB a b bx)) cs
def w_common_1 : DTS := (wPar2 0 1 (msCons (mE (wVar 1)) (msCons (mE (wOp pMod (wVar 0) (wVar 1))) msNil)))
def w_common : DTS := (wSeq (wWhile (wB (wOp pGt (wVar 1) (wC (.int 0)))) w_common_1) (wRet (wVar 0)))
def w_inverse_s1 : DTS := (wPar2 4 5 (msCons (mE (wOp pSubB (wVar 5) (wOp pMulT (wVar 6) (wVar 4)))) (msCons (mE (wVar 4)) msNil)))
@[simp ↓] theorem w_inverse_s1_ap (E : DEnds) (δ : DS) : w_inverse_s1 E δ = (wPar2 4 5 (msCons (mE (wOp pSubB (wVar 5) (wOp pMulT (wVar 6) (wVar 4)))) (msCons (mE (wVar 4)) msNil))) E δ := rfl
def w_inverse_s2 : DTS := (wSeq (wPar2 2 3 (msCons (mE (wOp pSubB (wVar 3) (wOp pMulT (wVar 6) (wVar 2)))) (msCons (mE (wVar 2)) msNil))) w_inverse_s1)
@[simp ↓] theorem w_inverse_s2_ap (E : DEnds) (δ : DS) : w_inverse_s2 E δ = (wSeq (wPar2 2 3 (msCons (mE (wOp pSubB (wVar 3) (wOp pMulT (wVar 6) (wVar 2)))) (msCons (mE (wVar 2)) msNil))) w_inverse_s1) E δ := rfl
def w_inverse_1 : DTS := (wSeq (wSet 6 (mE (wOp pDiv (wVar 3) (wVar 2)))) w_inverse_s2)
def w_inverse_s3 : DTS := (wSeq (wWhile (wB (wOp pGt (wVar 2) (wC (.int 0)))) w_inverse_1) (wRet (wOp pMod (wVar 5) (wVar 1))))
@[simp ↓] theorem w_inverse_s3_ap (E : DEnds) (δ : DS) : w_inverse_s3 E δ = (wSeq (wWhile (wB (wOp pGt (wVar 2) (wC (.int 0)))) w_inverse_1) (wRet (wOp pMod (wVar 5) (wVar 1)))) E δ := rfl
def w_inverse : DTS := (wSeq (wAsgG (wTup (wCons (wOp pMod (wVar 0) (wVar 1)) (wCons (wVar 1) (wCons (wC (.int 1)) (wCons (wC (.int 0)) wNil))))) (gT (gsCons (gN 2) (gsCons (gN 3) (gsCons (gN 4) (gsCons (gN 5) gsNil)))))) w_inverse_s3)
def w_least_times_t1 : DTS := (wRet (wOp pMod (wOp pMulT (wOp pDiv (wVar 2) (wVar 3)) (wCall [] sp_inverse (wCons (wOp pDiv (wVar 0) (wVar 3)) (wCons (wOp pDiv (wVar 1) (wVar 3)) wNil)))) (wOp pDiv (wVar 1) (wVar 3))))
def w_least_times_s1 : DTS := (wSeq (wIf (wB (wOp pNe (wOp pMod (wVar 2) (wVar 3)) (wC (.int 0)))) (wRet (wC .none)) wNext) w_least_times_t1)
@[simp ↓] theorem w_least_times_s1_ap (E : DEnds) (δ : DS) : w_least_times_s1 E δ = (wSeq (wIf (wB (wOp pNe (wOp pMod (wVar 2) (wVar 3)) (wC (.int 0)))) (wRet (wC .none)) wNext) w_least_times_t1) E δ := rfl
def w_least_times : DTS := (wSeq (wSet 3 (mE (wCall [] sp_common (wCons (wVar 0) (wCons (wVar 1) wNil))))) w_least_times_s1)
def w_rests : DTS := (wRet (wOfL (wComp (iEnumD (wCons (wVar 1) wNil)) (gT (gsCons (gN 2) (gsCons (gN 3) gsNil))) (wB (wOp pNe (wOp pMod (wVar 3) (wOp pIx (wVar 0) (wVar 2))) (wC (.int 0)))) (wVar 2) [2, 3])))
def w_bar_along_s1 : DTS := (wRet (wIfE (wB (wOp pGt (wVar 7) (wC (.int 0)))) (wTup (wCons (wC (.str "gap")) (wCons (wVar 2) (wCons (wVar 6) (wCons (wOp pDiv (wVar 7) (wVar 4)) wNil))))) (wC .none)))
@[simp ↓] theorem w_bar_along_s1_ap (E : DEnds) (δ : DS) : w_bar_along_s1 E δ = (wRet (wIfE (wB (wOp pGt (wVar 7) (wC (.int 0)))) (wTup (wCons (wC (.str "gap")) (wCons (wVar 2) (wCons (wVar 6) (wCons (wOp pDiv (wVar 7) (wVar 4)) wNil))))) (wC .none))) E δ := rfl
def w_bar_along_1 : DTS := (wRet (wTup (wCons (wC (.str "step")) (wCons (wVar 2) wNil))))
def w_bar_along_t1 : DTS := (wSeq (wSet 7 (mE (wOp pSubB (wOp pMulT (wVar 3) (wVar 6)) (wVar 5)))) w_bar_along_s1)
def w_bar_along_s2 : DTS := (wSeq (wIf (wB (wOp pIs (wVar 6) (wC .none))) w_bar_along_1 wNext) w_bar_along_t1)
@[simp ↓] theorem w_bar_along_s2_ap (E : DEnds) (δ : DS) : w_bar_along_s2 E δ = (wSeq (wIf (wB (wOp pIs (wVar 6) (wC .none))) w_bar_along_1 wNext) w_bar_along_t1) E δ := rfl
def w_bar_along_s3 : DTS := (wSeq (wSet 6 (mE (wCall [] sp_least_times (wCons (wVar 3) (wCons (wVar 4) (wCons (wVar 5) wNil)))))) w_bar_along_s2)
@[simp ↓] theorem w_bar_along_s3_ap (E : DEnds) (δ : DS) : w_bar_along_s3 E δ = (wSeq (wSet 6 (mE (wCall [] sp_least_times (wCons (wVar 3) (wCons (wVar 4) (wCons (wVar 5) wNil)))))) w_bar_along_s2) E δ := rfl
def w_bar_along : DTS := (wSeq (wPar3 3 4 5 (msCons (mE (wOp pIx (wOp pIx (wVar 0) (wC (.int 0))) (wVar 2))) (msCons (mE (wOp pIx (wOp pIx (wVar 0) (wC (.int 1))) (wVar 2))) (msCons (mE (wOp pIx (wVar 1) (wVar 2))) msNil)))) w_bar_along_s3)
def w_crossing_1 : DTS := (wExtend 2 (wOfL (wComp (iSeq (wCall [] sp_rests (wCons (wOp pIx (wVar 0) (wC (.int 1))) (wCons (wVar 1) wNil)))) (gN 4) (wB (wOp pNe (wVar 3) (wVar 4))) (wTup (wCons (wC (.str "sides")) (wCons (wVar 3) (wCons (wVar 4) wNil)))) [4])))
def w_crossing_s1 : DTS := (wSeq (wFor (iSeq (wCall [] sp_rests (wCons (wOp pIx (wVar 0) (wC (.int 0))) (wCons (wVar 1) wNil)))) (gN 3) w_crossing_1) (wRet (wVar 2)))
@[simp ↓] theorem w_crossing_s1_ap (E : DEnds) (δ : DS) : w_crossing_s1 E δ = (wSeq (wFor (iSeq (wCall [] sp_rests (wCons (wOp pIx (wVar 0) (wC (.int 0))) (wCons (wVar 1) wNil)))) (gN 3) w_crossing_1) (wRet (wVar 2))) E δ := rfl
def w_crossing : DTS := (wSeq (wSet 2 (mL (wLst wNil))) w_crossing_s1)
def w_paper_t1 : DTS := (wRet (wTup (wCons (wC (.str "cut")) (wCons (wC (.int 0)) (wCons (wVar 5) (wCons (wOp pMulT (wOp pIx (wOp pIx (wVar 0) (wC (.int 0))) (wVar 5)) (wCall [] sp_least_times (wCons (wOp pIx (wOp pIx (wVar 0) (wC (.int 0))) (wVar 5)) (wCons (wOp pIx (wOp pIx (wVar 0) (wC (.int 1))) (wVar 5)) (wCons (wOp pIx (wVar 1) (wVar 5)) wNil))))) wNil))))))
def w_paper_s1 : DTS := (wSeq (wIf (wB (wOp pIsNot (wVar 6) (wC .none))) (wRet (wVar 6)) wNext) w_paper_t1)
@[simp ↓] theorem w_paper_s1_ap (E : DEnds) (δ : DS) : w_paper_s1 E δ = (wSeq (wIf (wB (wOp pIsNot (wVar 6) (wC .none))) (wRet (wVar 6)) wNext) w_paper_t1) E δ := rfl
def w_paper_s2 : DTS := (wSeq (wSet 6 (mE (wCall [] sp_bar_along (wCons (wVar 0) (wCons (wVar 1) (wCons (wVar 5) wNil)))))) w_paper_s1)
@[simp ↓] theorem w_paper_s2_ap (E : DEnds) (δ : DS) : w_paper_s2 E δ = (wSeq (wSet 6 (mE (wCall [] sp_bar_along (wCons (wVar 0) (wCons (wVar 1) (wCons (wVar 5) wNil)))))) w_paper_s1) E δ := rfl
def w_paper_t2 : DTS := (wSeq (wSet 5 (mE (wOp pIx (wCall [] sp_rests (wCons (wOp pIx (wVar 0) (wC (.int 0))) (wCons (wVar 1) wNil))) (wC (.int 0))))) w_paper_s2)
def w_paper_s3 : DTS := (wSeq (wIf (wB (wOp pNe (wVar 4) (wOfL (wLst wNil)))) (wRet (wOp pIx (wVar 4) (wC (.int 0)))) wNext) w_paper_t2)
@[simp ↓] theorem w_paper_s3_ap (E : DEnds) (δ : DS) : w_paper_s3 E δ = (wSeq (wIf (wB (wOp pNe (wVar 4) (wOfL (wLst wNil)))) (wRet (wOp pIx (wVar 4) (wC (.int 0)))) wNext) w_paper_t2) E δ := rfl
def w_paper_3 : DTS := (wRet (wTup (wCons (wC (.str "cut")) (wCons (wVar 2) (wCons (wC (.int 0)) (wCons (wOp pIx (wVar 1) (wC (.int 0))) wNil))))))
def w_paper_4 : DTS := (wIf (wB (wOp pEq (wCall [] sp_rests (wCons (wVar 3) (wCons (wVar 1) wNil))) (wOfL (wLst wNil)))) w_paper_3 wNext)
def w_paper_t3 : DTS := (wSeq (wSet 4 (mE (wCall [] sp_crossing (wCons (wVar 0) (wCons (wVar 1) wNil))))) w_paper_s3)
def w_paper : DTS := (wSeq (wFor (iEnumD (wCons (wVar 0) wNil)) (gT (gsCons (gN 2) (gsCons (gN 3) gsNil))) w_paper_4) w_paper_t3)
def w_is_filled : DTS := (wRet (wOp pEq (wOp pIx (wCall [] sp_paper (wCons (wVar 0) (wCons (wVar 1) wNil))) (wC (.int 0))) (wC (.str "cut"))))
theorem ln_common : ∀ cs R, sp_common cs R → cs.length = 2 := by
  intro cs R h
  unfold sp_common at h
  repeat (obtain ⟨_, h⟩ := h)
  subst_vars; rfl
theorem ln_inverse : ∀ cs R, sp_inverse cs R → cs.length = 2 := by
  intro cs R h
  unfold sp_inverse at h
  repeat (obtain ⟨_, h⟩ := h)
  subst_vars; rfl
theorem ln_least_times : ∀ cs R, sp_least_times cs R → cs.length = 3 := by
  intro cs R h
  unfold sp_least_times at h
  repeat (obtain ⟨_, h⟩ := h)
  subst_vars; rfl
theorem ln_rests : ∀ cs R, sp_rests cs R → cs.length = 2 := by
  intro cs R h
  unfold sp_rests at h
  repeat (obtain ⟨_, h⟩ := h)
  subst_vars; rfl
theorem ln_bar_along : ∀ cs R, sp_bar_along cs R → cs.length = 3 := by
  intro cs R h
  unfold sp_bar_along at h
  repeat (obtain ⟨_, h⟩ := h)
  subst_vars; rfl
theorem ln_crossing : ∀ cs R, sp_crossing cs R → cs.length = 2 := by
  intro cs R h
  unfold sp_crossing at h
  repeat (obtain ⟨_, h⟩ := h)
  subst_vars; rfl
theorem ln_paper : ∀ cs R, sp_paper cs R → cs.length = 2 := by
  intro cs R h
  unfold sp_paper at h
  repeat (obtain ⟨_, h⟩ := h)
  subst_vars; rfl
theorem ln_is_filled : ∀ cs R, sp_is_filled cs R → cs.length = 2 := by
  intro cs R h
  unfold sp_is_filled at h
  repeat (obtain ⟨_, h⟩ := h)
  subst_vars; rfl
end TW
set_option Elab.async false
set_option linter.all false
set_option maxRecDepth 100000
set_option maxHeartbeats 4000000
namespace TW
open PySem PySem.Spec PyProof.Rows L2 DL
theorem rd_common : ∀ cs R, sp_common cs R → w_common (endsOf cs R) (start0 2 cs) := by
  rintro _ R ⟨a, b, rfl, ha, hb, hR⟩
  simp -implicitDefEqProofs -dsimp [w_common]
  refine while_plain (fun m δ => ∃ x y : Int, δ = [.d (.int x), .d (.int y)] ∧ 0 ≤ y ∧ 0 ≤ x ∧ y.toNat = m ∧ gcdI x y = gcdI a b) (fun δ => ∃ c1, δ = [.d (.int (gcdI a b)), .d c1]) b.toNat ⟨a, b, rfl, hb, ha, rfl, rfl⟩ ?_ ?_
  · rintro δ ⟨c1, rfl⟩
    (try simp -implicitDefEqProofs -dsimp)
    exact hR
  · rintro m δ ⟨x, y, rfl, h0, h1, rfl, hg⟩ K N T hK hN
    (try simp -implicitDefEqProofs -dsimp)
    split
    · rename_i hy
      simp -implicitDefEqProofs -dsimp [w_common_1]
      refine ⟨hy, hK (x % y).toNat _ ?_ ⟨y, x % y, rfl, Int.emod_nonneg _ (by omega), by omega, rfl, ?_⟩⟩
      · have := Int.emod_lt_of_pos x hy
        have := Int.emod_nonneg x (show y ≠ 0 by omega)
        omega
      · rw [gcd_step, hg]
    · rename_i hy
      have : y = 0 := by omega
      subst this
      have e : gcdI x 0 = x := by unfold gcdI; simp; omega
      refine hN _ ⟨.int 0, ?_⟩
      rw [← hg, e]
theorem abs_mul_le {q n : Int} (hq : 0 ≤ q) : (q * n).natAbs = q.toNat * n.natAbs := by
  rw [Int.natAbs_mul]; congr 1; omega
theorem rd_inverse : ∀ cs R, sp_inverse cs R → w_inverse (endsOf cs R) (start0 7 cs) := by
  rintro _ R ⟨a, b, rfl, ⟨hb0, hb1⟩, hR⟩
  have l0 : 0 ≤ a % b := Int.emod_nonneg _ (by omega)
  have l1 : a % b < b := Int.emod_lt_of_pos _ (by omega)
  simp -implicitDefEqProofs -dsimp [w_inverse]
  refine ⟨by omega, ?_⟩
  refine while_plain (fun m δ => ∃ (l r n t : Int) (c6 : Cell) (f : Nat), δ = [.d (.int a), .d (.int b), .d (.int l), .d (.int r), .d (.int n), .d (.int t), c6] ∧ 0 ≤ l ∧ 0 < r ∧ l < r ∧ r ≤ b ∧ n.natAbs * r.toNat + t.natAbs * l.toNat ≤ b.toNat ∧ l.toNat = m ∧ m < f ∧ invGo f l r n t = invGo (a % b).toNat.succ (a % b) b 1 0) (fun δ => ∃ c2 c3 c4 c6, δ = [.d (.int a), .d (.int b), c2, c3, c4, .d (.int (invGo (a % b).toNat.succ (a % b) b 1 0)), c6]) (a % b).toNat ⟨_, _, _, _, _, _, rfl, l0, by omega, by omega, by omega, by simp, rfl, by omega, rfl⟩ ?_ ?_
  · rintro δ ⟨c2, c3, c4, c6, rfl⟩
    (try simp -implicitDefEqProofs -dsimp)
    exact ⟨by omega, hR⟩
  · rintro m δ ⟨l, r, n, t, c6, f, rfl, h0, h1, h2, h3, h4, rfl, hf, hg⟩ K N T hK hN
    (try simp -implicitDefEqProofs -dsimp)
    obtain ⟨f, rfl⟩ : ∃ f', f = f' + 1 := ⟨f - 1, by omega⟩
    split
    · rename_i hl
      have q0 : 0 ≤ r / l := Int.ediv_nonneg (by omega) h0
      have q1 : r / l ≤ r := Int.ediv_le_self _ (by omega)
      have m0 := Int.emod_nonneg r (show l ≠ 0 by omega)
      have m1 := Int.emod_lt_of_pos r hl
      have e := sub_div r l
      have nb : n.natAbs ≤ b.toNat := by
        have : n.natAbs * 1 ≤ n.natAbs * r.toNat := Nat.mul_le_mul_left _ (by omega)
        omega
      have B := BIG_ge
      simp -implicitDefEqProofs -dsimp [w_inverse_1]
      refine ⟨div_big hl (by omega), mul_big (by omega) (by omega) (by omega) (by omega), mul_big (by omega) (by omega) (by omega) (by omega), hK (r % l).toNat _ (by omega) ⟨r - r / l * l, l, t - r / l * n, n, _, f, rfl, by omega, by omega, by omega, by omega, ?_, by rw [e], by omega, ?_⟩⟩
      · rw [e]
        have d1 : (t - r / l * n).natAbs ≤ t.natAbs + (r / l).toNat * n.natAbs := by
          have := abs_mul_le (n := n) q0
          omega
        have d2 := Nat.mul_le_mul_right l.toNat d1
        have d3 : r.toNat = l.toNat * (r / l).toNat + (r % l).toNat := by
          have := Int.mul_ediv_add_emod r l
          have h5 : ((l.toNat * (r / l).toNat : Nat) : Int) = l * (r / l) := by
            rw [Int.natCast_mul, Int.toNat_of_nonneg h0, Int.toNat_of_nonneg q0]
          omega
        have d4 : (t.natAbs + (r / l).toNat * n.natAbs) * l.toNat = t.natAbs * l.toNat + n.natAbs * (l.toNat * (r / l).toNat) := by
          rw [Nat.add_mul]
          congr 1
          rw [Nat.mul_comm (r / l).toNat, Nat.mul_assoc, Nat.mul_comm (r / l).toNat]
        have d5 : n.natAbs * r.toNat = n.natAbs * (l.toNat * (r / l).toNat) + n.natAbs * (r % l).toNat := by
          rw [d3, Nat.mul_add]
        omega
      · rw [← hg]
        show _ = if l > 0 then _ else _
        rw [if_pos hl]
    · rename_i hl
      have e : invGo (f + 1) l r n t = t := by
        show (if l > 0 then _ else _) = _
        rw [if_neg hl]
      rw [e] at hg
      exact hN _ ⟨_, _, _, _, by rw [hg]⟩
theorem gcd_div_pos {a b : Int} (ha : Pos a) (x : Int) (hd : gcdI a b ∣ x) (hx : Pos x) : Pos (x / gcdI a b) := by
  obtain ⟨g0, g1⟩ := gcd_le (b := b) ha.1
  obtain ⟨x0, x1⟩ := hx
  have e := Int.ediv_mul_cancel hd
  have l := Int.ediv_le_self (gcdI a b) (show 0 ≤ x by omega)
  have n := Int.ediv_nonneg (show 0 ≤ x by omega) (show 0 ≤ gcdI a b by omega)
  refine ⟨?_, by omega⟩
  have : x / gcdI a b ≠ 0 := fun z => by rw [z] at e; omega
  omega
theorem ediv_abs {x g : Int} (hg : 1 ≤ g) (h0 : -BIG ≤ x) (h1 : x ≤ BIG) : -BIG ≤ x / g ∧ x / g ≤ BIG := by
  have B := BIG_ge
  by_cases c : 0 ≤ x
  · have l := Int.ediv_le_self g c
    have n := Int.ediv_nonneg c (show 0 ≤ g by omega)
    omega
  · have n : x / g < 0 := Int.ediv_neg_of_neg_of_pos (by omega) (by omega)
    have : x ≤ x / g := by
      rw [Int.le_ediv_iff_mul_le (by omega)]
      have := Int.mul_le_mul_of_nonpos_left (show x ≤ 0 by omega) (show (1 : Int) ≤ g by omega)
      omega
    omega
theorem rd_least_times : ∀ cs R, sp_least_times cs R → w_least_times (endsOf cs R) (start0 4 cs) := by
  rintro _ R ⟨a, b, s, rfl, ha, hb, hs0, hs1, hR⟩
  obtain ⟨g0, g1⟩ := gcd_le (b := b) ha.1
  have qa := gcd_div_pos (b := b) ha a (gcd_dvd_l a b) ha
  have qb := gcd_div_pos (b := b) ha b (gcd_dvd_r a b) hb
  obtain ⟨i0, i1, _⟩ := inv_ok qb.1 (gcd_parts (b := b) ha.1)
  obtain ⟨a0, a1⟩ := ha
  obtain ⟨b0, b1⟩ := hb
  simp -implicitDefEqProofs -dsimp [w_least_times]
  refine ask_of ⟨a, b, rfl, by omega, by omega, ?_⟩
  (try simp -implicitDefEqProofs -dsimp)
  refine ⟨by omega, ?_⟩
  have lg := (div_big (j := gcdI a b) (by omega) (by omega)).2
  unfold timesF at hR
  split
  · rename_i h
    rw [if_neg (by simpa using h)] at hR
    simp -implicitDefEqProofs -dsimp [w_least_times_t1, lg]
    refine ⟨by omega, ask_of ⟨_, _, rfl, qb, ?_⟩⟩
    simp -implicitDefEqProofs -dsimp [lg]
    have := ediv_abs g0 hs0 hs1
    have B := BIG_ge
    have := qb.2
    exact ⟨mul_big (by omega) (by omega) (by omega) (by omega), by omega, by have := qb.1; omega, hR⟩
  · rename_i h
    rw [if_pos (by simpa using h)] at hR
    exact hR
theorem rd_rests : ∀ cs R, sp_rests cs R → w_rests (endsOf cs R) (start0 4 cs) := by
  rintro _ R ⟨br, bx, rfl, hl, hb, hR⟩
  simp -implicitDefEqProofs -dsimp [w_rests]
  refine com_map (List.range bx.length) _ (numbered_gi _) (fun i => if (!decide (gi bx i % gi br i = 0)) = true then some (.int (i : Nat)) else none) (fun i hi acc K hK => ?_) ?_
  · have hi := List.mem_range.mp hi
    have p := hb _ (gi_mem (ns := br) (i := i) (by omega))
    simp -implicitDefEqProofs -dsimp [gi_at (ns := br) (i := i) (by omega)]
    refine ⟨by omega, ?_⟩
    split
    · rename_i z
      simpa [z] using hK
    · rename_i z
      simpa [z] using hK
  · rw [fm_map]
    (try simp -implicitDefEqProofs -dsimp)
    exact hR
theorem PB.at {a b bx : List Int} (h : PB a b bx) {i : Nat} (hi : i < bx.length) : a[i]? = some (gi a i) ∧ b[i]? = some (gi b i) ∧ bx[i]? = some (gi bx i) ∧ Pos (gi a i) ∧ Pos (gi b i) ∧ Pos (gi bx i) :=
  have ha : i < a.length := by have := h.la; omega
  have hb : i < b.length := by have := h.lb; omega
  ⟨gi_at ha, gi_at hb, gi_at hi, h.pa _ (gi_mem ha), h.pb _ (gi_mem hb), h.px _ (gi_mem hi)⟩
theorem times_big {a b s t : Int} (ha : Pos a) (hb : Pos b) (h : timesF a b s = some t) : 0 ≤ t ∧ t ≤ BIG := by
  obtain ⟨_, t0, t1, _⟩ := times_some ha.1 hb.1 h
  obtain ⟨g0, _⟩ := gcd_le (b := b) ha.1
  have := Int.ediv_le_self (gcdI a b) (show 0 ≤ b by have := hb.1; omega)
  have := hb.2
  omega
theorem rd_bar_along : ∀ cs R, sp_bar_along cs R → w_bar_along (endsOf cs R) (start0 8 cs) := by
  rintro _ R ⟨a, b, bx, ax, rfl, h, hx, hR⟩
  obtain ⟨ea, eb, ex, qa, qb, qx⟩ := h.at hx
  unfold barD barF at hR
  simp -implicitDefEqProofs -dsimp [w_bar_along, ea, eb, ex]
  have B := BIG_ge
  have x0 := qx.1
  refine ask_of ⟨_, _, _, rfl, qa, qb, by omega, qx.2, ?_⟩
  cases ht : timesF (gi a ax) (gi b ax) (gi bx ax) with
  | none =>
    rw [ht] at hR
    simp -implicitDefEqProofs -dsimp [w_bar_along_1]
    exact hR
  | some t =>
    rw [ht] at hR
    have hR : R (if gi a ax * t - gi bx ax > 0 then .tuple [.str "gap", .int (ax : Int), .int t, .int ((gi a ax * t - gi bx ax) / gi b ax)] else .none) _ := hR
    obtain ⟨t0, t1⟩ := times_big qa qb ht
    simp -implicitDefEqProofs -dsimp [w_bar_along_t1]
    have a0 := qa.1
    have a1 := qa.2
    refine ⟨mul_big (by omega) (by omega) (by omega) (by omega), ?_⟩
    split
    · rename_i z
      rw [if_pos (show gi a ax * t - gi bx ax > 0 by omega)] at hR
      exact ⟨qb.div, hR⟩
    · rename_i z
      rw [if_neg (show ¬ gi a ax * t - gi bx ax > 0 by omega)] at hR
      exact hR
theorem mem_rests {a bx : List Int} {i : Nat} : i ∈ restsF a bx ↔ i < bx.length ∧ gi bx i % gi a i ≠ 0 := by
  unfold restsF
  rw [List.mem_filter, List.mem_range]; simp
theorem rests_len (a bx : List Int) : (restsF a bx).length ≤ bx.length := by
  unfold restsF
  exact Nat.le_trans (List.length_filter_le _ _) (by simp)
theorem rests_nodup (a bx : List Int) : (restsF a bx).Nodup := List.Pairwise.filter _ List.nodup_range
theorem rd_crossing : ∀ cs R, sp_crossing cs R → w_crossing (endsOf cs R) (start0 5 cs) := by
  rintro _ R ⟨a, b, bx, rfl, h, hR⟩
  simp -implicitDefEqProofs -dsimp [w_crossing]
  intro q
  refine ask_of (sp := sp_rests) ⟨a, bx, rfl, by have := h.la; omega, fun x hx => (h.pa x hx).1, ?_⟩
  (try simp -implicitDefEqProofs -dsimp)
  refine for_plain (restsF a bx) (fun (i : Nat) => PyData.int (i : Int)) rfl (fun rest δ => ∃ (c3 c4 : Cell) (done : List (Nat × Nat)), δ = [.d (prD a b), .d (tI bx), .ol q (done.map crD), c3, c4] ∧ done ++ (rest.flatMap fun i => ((restsF b bx).filter fun j => !decide (i = j)).map fun j => (i, j)) = crossF a b bx ∧ done.length + rest.length * 10 ≤ 100) ⟨_, _, [], rfl, rfl, ?_⟩ ?_ ?_
  · have := rests_len a bx
    have := h.l1
    simp; omega
  · rintro δ ⟨c3, c4, done, rfl, hd, _⟩
    have e : done = crossF a b bx := by simpa using hd
    subst e
    (try simp -implicitDefEqProofs -dsimp)
    exact hR
  · rintro i rest δ ⟨c3, c4, done, rfl, hd, hl⟩ K B T hK
    simp -implicitDefEqProofs -dsimp [w_crossing_1]
    refine ⟨⟨q, _, rfl⟩, ask_of (sp := sp_rests) ⟨b, bx, rfl, by have := h.lb; omega, fun x hx => (h.pb x hx).1, ?_⟩⟩
    (try simp -implicitDefEqProofs -dsimp)
    refine com_map (restsF b bx) (fun (j : Nat) => PyData.int (j : Int)) rfl (fun j => if (!decide (i = j)) = true then some (crD (i, j)) else none) (fun j hj acc K hK => ?_) ?_
    · (try simp -implicitDefEqProofs -dsimp)
      by_cases z : i = j
      · subst z
        simpa using hK
      · have z' : ¬ ((i : Int) = (j : Int)) := fun e => z (by omega)
        simp [z']
        simpa [z, crD] using hK
    · rw [fm_map]
      (try simp -implicitDefEqProofs -dsimp)
      have e : List.map (fun j => crD (i, j)) (List.filter (fun a => !decide (i = a)) (restsF b bx)) = (((restsF b bx).filter fun j => !decide (i = j)).map fun j => (i, j)).map crD := by
        rw [List.map_map]; simp [Function.comp_def]
      have l1 := Nat.le_trans (List.length_filter_le (fun j => !decide (i = j)) (restsF b bx)) (rests_len b bx)
      have l2 := h.l1
      simp only [List.length_cons] at hl
      refine ⟨?_, ?_⟩
      · omega
      · rw [e, ← List.map_append]
        refine hK _ ⟨_, _, done ++ _, rfl, ?_, ?_⟩
        · rw [← hd, List.flatMap_cons, List.append_assoc]
        · rw [List.length_append, List.length_map]; omega
theorem shaped_cr (ps : List (Nat × Nat)) : SeqAt.shaped (.list (ps.map crD)) = true := by
  have h1 : PyData.canLayAll0 (ps.map crD) = true := all_of (P := PyData.canLay0) (by simp [PyData.canLayAll0]) (by intros; simp [PyData.canLayAll0]) _ fun x hx => by
    obtain ⟨p, _, rfl⟩ := List.mem_map.mp hx
    simp [crD, PyData.canLay0, PyData.canLayAll0]
    decide +kernel
  have h2 : PyData.depthAll (ps.map crD) ≤ 1 := depthAll_le _ fun x hx => by
    obtain ⟨p, _, rfl⟩ := List.mem_map.mp hx
    simp [crD, PyData.depth, PyData.depthAll]
  simp [SeqAt.shaped, PyData.canLay0, PyData.depth, h1]
  omega
theorem eqv_cr (ps : List (Nat × Nat)) : PyData.eqvAll (ps.map crD) [] = ps.isEmpty := by
  cases ps <;> simp [PyData.eqvAll]
theorem rd_paper_t2 {a b bx : List Int} {R : PyData → List Cell → Prop} {c2 c3 c4 c5 c6 : Cell} (h : PB a b bx) (na : restsF a bx ≠ []) (nb : restsF b bx ≠ []) (nc : crossF a b bx = []) (hR : R (paperF a b bx) [.d (prD a b), .d (tI bx)]) :
    w_paper_t2 (endsOf [.d (prD a b), .d (tI bx)] R) [.d (prD a b), .d (tI bx), c2, c3, c4, c5, c6] := by
  obtain ⟨ax, rest, hr⟩ : ∃ ax rest, restsF a bx = ax :: rest := by
    cases hh : restsF a bx with
    | nil => exact absurd hh na
    | cons x xs => exact ⟨x, xs, rfl⟩
  have hax : ax < bx.length := (mem_rests.mp (by rw [hr]; exact List.mem_cons_self ..)).1
  obtain ⟨ea, eb, ex, qa, qb, qx⟩ := h.at hax
  unfold paperF at hR
  rw [if_neg na, if_neg nb, nc, hr] at hR
  simp -implicitDefEqProofs -dsimp [w_paper_t2]
  refine ask_of (sp := sp_rests) ⟨a, bx, rfl, by have := h.la; omega, fun x hx => (h.pa x hx).1, ?_⟩
  simp -implicitDefEqProofs -dsimp [hr]
  refine ask_of (sp := sp_bar_along) ⟨a, b, bx, ax, rfl, h, hax, ?_⟩
  have hR2 : R (match barD a b bx ax with
      | PyData.none => PyData.tuple [PyData.str "cut", PyData.int 0, PyData.int (ax : Int), PyData.int (gi a ax * (timesF (gi a ax) (gi b ax) (gi bx ax)).getD 0)]
      | d => d) [Cell.d (prD a b), Cell.d (tI bx)] := hR
  unfold barD barF at hR2 ⊢
  cases ht : timesF (gi a ax) (gi b ax) (gi bx ax) with
  | none =>
    simp only [ht] at hR2
    (try simp -implicitDefEqProofs -dsimp)
    exact hR2
  | some t =>
    simp only [ht] at hR2
    have x0 := qx.1
    have B := BIG_ge
    have a0 := qa.1
    have a1 := qa.2
    obtain ⟨t0, t1⟩ := times_big qa qb ht
    by_cases z : gi a ax * t - gi bx ax > 0
    · simp only [if_pos z] at hR2 ⊢
      (try simp -implicitDefEqProofs -dsimp)
      exact hR2
    · simp only [if_neg z] at hR2 ⊢
      simp -implicitDefEqProofs -dsimp [w_paper_t1, ea, eb, ex]
      refine ask_of (sp := sp_least_times) ⟨_, _, _, rfl, qa, qb, by omega, qx.2, ?_⟩
      simp -implicitDefEqProofs -dsimp [ht]
      exact ⟨mul_big (by omega) (by omega) (by omega) (by omega), by simpa using hR2⟩
theorem rd_paper_t3 {a b bx : List Int} {R : PyData → List Cell → Prop} {c2 c3 c4 c5 c6 : Cell} (h : PB a b bx) (na : restsF a bx ≠ []) (nb : restsF b bx ≠ []) (hR : R (paperF a b bx) [.d (prD a b), .d (tI bx)]) :
    w_paper_t3 (endsOf [.d (prD a b), .d (tI bx)] R) [.d (prD a b), .d (tI bx), c2, c3, c4, c5, c6] := by
  simp -implicitDefEqProofs -dsimp [w_paper_t3]
  refine ask_of (sp := sp_crossing) ⟨a, b, bx, rfl, h, ?_⟩
  simp -implicitDefEqProofs -dsimp [shaped_cr, eqv_cr, shaped_nil]
  split
  · rename_i z
    exact rd_paper_t2 h na nb z hR
  · rename_i z
    cases hc : crossF a b bx with
    | nil => exact absurd hc z
    | cons p ps =>
      unfold paperF at hR
      rw [if_neg na, if_neg nb, hc] at hR
      (try simp -implicitDefEqProofs -dsimp)
      exact hR
theorem rd_paper_4 {E : DEnds} {kind : Int} {br bx : List Int} {pr : PyData} {c4 c5 c6 : Cell} (hl : br.length = bx.length) (h0 : 0 < bx.length) (hb : ∀ x ∈ br, Pos x)
    (k0 : restsF br bx = [] → E.rt (.tuple [.str "cut", .int kind, .int 0, .int (gi bx 0)]) [.d pr, .d (tI bx), .d (.int kind), .d (tI br), c4, c5, c6])
    (k1 : restsF br bx ≠ [] → E.nx [.d pr, .d (tI bx), .d (.int kind), .d (tI br), c4, c5, c6]) :
    w_paper_4 E [.d pr, .d (tI bx), .d (.int kind), .d (tI br), c4, c5, c6] := by
  simp -implicitDefEqProofs -dsimp [w_paper_4]
  refine ask_of (sp := sp_rests) ⟨br, bx, rfl, by omega, fun x hx => (hb x hx).1, ?_⟩
  simp -implicitDefEqProofs -dsimp [shaped_nats, eqv_nats, shaped_nil]
  split
  · rename_i z
    have q := k0 z
    simp -implicitDefEqProofs -dsimp [w_paper_3, gi_at h0]
    exact q
  · rename_i z
    exact k1 z
theorem rd_paper_for {E : DEnds} {a b bx : List Int} {c2 c3 c4 c5 c6 : Cell} {u : Stop E} (h : PB a b bx)
    (k0 : restsF a bx = [] → ∀ c2 c3, E.rt (.tuple [.str "cut", .int 0, .int 0, .int (gi bx 0)]) [.d (prD a b), .d (tI bx), c2, c3, c4, c5, c6])
    (k1 : restsF a bx ≠ [] → restsF b bx = [] → ∀ c2 c3, E.rt (.tuple [.str "cut", .int 1, .int 0, .int (gi bx 0)]) [.d (prD a b), .d (tI bx), c2, c3, c4, c5, c6])
    (k2 : restsF a bx ≠ [] → restsF b bx ≠ [] → ∀ c2 c3, E.nx [.d (prD a b), .d (tI bx), c2, c3, c4, c5, c6]) :
    forC (gT (gsCons (gN 2) (gsCons (gN 3) gsNil))) w_paper_4 [.tuple [.int 0, tI a], .tuple [.int 1, tI b]] [.d (prD a b), .d (tI bx), c2, c3, c4, c5, c6] E u := by
  refine rd_paper_4 (kind := 0) h.la h.l0 h.pa (fun z => k0 z _ _) fun z => ?_
  exact rd_paper_4 (kind := 1) h.lb h.l0 h.pb (fun z2 => k1 z z2 _ _) fun z2 => k2 z z2 _ _
theorem rd_paper : ∀ cs R, sp_paper cs R → w_paper (endsOf cs R) (start0 7 cs) := by
  rintro _ R ⟨a, b, bx, rfl, h, hR⟩
  simp -implicitDefEqProofs -dsimp [w_paper, DL.numbered]
  refine rd_paper_for h (fun z c2 c3 => ?_) (fun na z c2 c3 => ?_) fun na nb c2 c3 => ?_
  · unfold paperF at hR
    rw [if_pos z] at hR
    exact ⟨trivial, hR⟩
  · unfold paperF at hR
    rw [if_neg na, if_pos z] at hR
    exact ⟨trivial, hR⟩
  · exact rd_paper_t3 h na nb hR
theorem bar_shape (a b bx : List Int) (ax : Nat) : barD a b bx ax = .none ∨ (∃ rest, barD a b bx ax = .tuple (.str "step" :: rest)) ∨ ∃ rest, barD a b bx ax = .tuple (.str "gap" :: rest) := by
  unfold barD barF
  split
  · exact .inr (.inl ⟨_, rfl⟩)
  · split
    · exact .inr (.inr ⟨_, rfl⟩)
    · exact .inl rfl
theorem bar_none {a b bx : List Int} {ax : Nat} : barD a b bx ax = .none ↔ isSum (gi a ax) (gi b ax) (gi bx ax) = true := by
  unfold barD barF isSum
  cases h : timesF (gi a ax) (gi b ax) (gi bx ax) with
  | none => simp
  | some t =>
    simp only [decide_eq_true_eq]
    by_cases c : gi a ax * t - gi bx ax > 0
    · rw [if_pos c]; simp; omega
    · rw [if_neg c]; simp; omega
theorem cross_nil {a b bx : List Int} (ha : restsF a bx ≠ []) (hb : restsF b bx ≠ []) : crossF a b bx = [] ↔ restsF a bx = restsF b bx ∧ (restsF a bx).length = 1 := by
  have na := rests_nodup a bx
  have nb := rests_nodup b bx
  unfold crossF
  revert ha hb na nb
  generalize restsF a bx = l
  generalize restsF b bx = m
  intro ha hb na nb
  constructor
  · intro h
    have e : ∀ i ∈ l, ∀ j ∈ m, i = j := fun i hi j hj => by
      have := (List.flatMap_eq_nil_iff.mp h) i hi
      rw [List.map_eq_nil_iff, List.filter_eq_nil_iff] at this
      have := this j hj
      simpa using this
    cases l with
    | nil => exact absurd rfl ha
    | cons i l =>
      cases m with
      | nil => exact absurd rfl hb
      | cons j m =>
        have hl : l = [] := by
          cases l with
          | nil => rfl
          | cons k l =>
            have h1 := e i (by simp) j (by simp)
            have h2 := e k (by simp) j (by simp)
            simp at na; omega
        have hm : m = [] := by
          cases m with
          | nil => rfl
          | cons k m =>
            have h1 := e i (by simp) j (by simp)
            have h2 := e i (by simp) k (by simp)
            simp at nb; omega
        subst hl hm
        have := e i (by simp) j (by simp)
        subst this
        exact ⟨rfl, rfl⟩
  · rintro ⟨rfl, h⟩
    cases l with
    | nil => cases h
    | cons i l =>
      cases l with
      | nil => simp
      | cons _ _ => simp at h
/-- the sort of a paper -/
theorem paper_fill (a b bx : List Int) : ∃ x rest, paperF a b bx = .tuple (.str x :: rest) ∧ decide (x = ("cut" : Str)) = fillB a b bx := by
  unfold paperF fillB
  by_cases ha : restsF a bx = []
  · rw [if_pos ha, ha]; exact ⟨_, _, rfl, by simp⟩
  rw [if_neg ha]
  by_cases hb : restsF b bx = []
  · rw [if_pos hb, hb]; exact ⟨_, _, rfl, by simp⟩
  rw [if_neg hb]
  have ea : (restsF a bx).isEmpty = false := by simpa using ha
  have eb : (restsF b bx).isEmpty = false := by simpa using hb
  rw [ea, eb]
  cases hc : crossF a b bx with
  | cons p ps =>
    have : ¬ (restsF a bx = restsF b bx ∧ (restsF a bx).length = 1) := fun h => by rw [← cross_nil ha hb, hc] at h; cases h
    refine ⟨_, _, rfl, ?_⟩
    have e : (decide (restsF a bx = restsF b bx) && decide ((restsF a bx).length = 1)) = false := by
      rw [Bool.and_eq_false_iff]
      simp only [decide_eq_false_iff_not]
      exact Classical.not_and_iff_not_or_not.mp this
    rw [e]; simp; decide +kernel
  | nil =>
    obtain ⟨h1, h2⟩ := (cross_nil ha hb).mp hc
    simp only [h1, h2, decide_true, Bool.true_and, Bool.false_or]
    rw [← h1]
    simp only [h2, decide_true, Bool.true_and]
    generalize (restsF a bx).headD 0 = ax
    by_cases hs : isSum (gi a ax) (gi b ax) (gi bx ax) = true
    · have := bar_none.mpr hs
      simp only [this]
      exact ⟨_, _, rfl, by simp [hs]⟩
    · have e : isSum (gi a ax) (gi b ax) (gi bx ax) = false := by simpa using hs
      rw [e]
      rcases bar_shape a b bx ax with h | ⟨rest, h⟩ | ⟨rest, h⟩
      · exact absurd (bar_none.mp h) hs
      · simp only [h]; exact ⟨_, _, rfl, by decide⟩
      · simp only [h]; exact ⟨_, _, rfl, by decide⟩
theorem rd_is_filled : ∀ cs R, sp_is_filled cs R → w_is_filled (endsOf cs R) (start0 2 cs) := by
  rintro _ R ⟨a, b, bx, rfl, h, hR⟩
  simp -implicitDefEqProofs -dsimp [w_is_filled]
  refine ask_of (sp := sp_paper) ⟨a, b, bx, rfl, h, ?_⟩
  obtain ⟨x, rest, e, e2⟩ := paper_fill a b bx
  rw [e]
  rw [← e2] at hR
  (try simp -implicitDefEqProofs -dsimp)
  exact hR
end TW
set_option Elab.async false
set_option linter.all false
set_option maxRecDepth 100000
set_option maxHeartbeats 4000000
namespace TW
open PySem PySem.Spec PyProof.Rows L2 DL
abbrev sp_Ldeck : DSpM := spDeck
abbrev sp_Ldraw : DSp := spDraw
def In (m : Int) (ns : List Int) : Prop := ∀ x ∈ ns, 1 ≤ x ∧ x ≤ m
def sp_Lone : DSp := fun cs R => ∃ a b c d xs, cs = [.dk a b c, .d d] ∧ seqOf d = some xs ∧ 0 < xs.length ∧ xs.length ≤ 1000000 ∧ ∀ x ∈ xs, R x [.dk a b c, .d d]
def sp_Lsides : DSp := fun cs R => ∃ a b c n m, cs = [.dk a b c, .d (.int n), .d (.int m)] ∧ 0 ≤ n ∧ n ≤ 1000 ∧ 0 < m ∧ m < 2 ^ 64 ∧ ∀ ns : List Int, ns.length = n.toNat → In m ns → R (tI ns) [.dk a b c, .d (.int n), .d (.int m)]
def sp_Lpair : DSp := fun cs R => ∃ a b c n m, cs = [.dk a b c, .d (.int n), .d (.int m)] ∧ 1 ≤ n ∧ n ≤ 1000 ∧ 0 < m ∧ m < 2 ^ 64 ∧ ∀ p q : List Int, p.length = n.toNat → q.length = n.toNat → In m p → In m q → R (prD p q) [.dk a b c, .d (.int n), .d (.int m)]
def lcmI (a b : Int) : Int := a * b / gcdI a b
def sp_Llcm : DSp := fun cs R => ∃ a b, cs = [.d (.int a), .d (.int b)] ∧ Pos a ∧ Pos b ∧ R (.int (lcmI a b)) cs
/-- the sides of a cut box -/
def IsCutBox (p q ns : List Int) (m : Int) : Prop := ns.length = p.length ∧ ∃ ax x y, ax < p.length ∧ 0 ≤ x ∧ x < m ∧ 1 ≤ y ∧ y ≤ m ∧ ∀ i, i < p.length → gi ns i = if i = ax then gi p i * x + gi q i * y else lcmI (gi p i) (gi q i)
def IsPlainBox (p ns : List Int) (m : Int) : Prop := ns.length = p.length ∧ ∀ i, i < p.length → ∃ k, 1 ≤ k ∧ k ≤ m ∧ gi ns i = gi p i * k
/-- two bricks of one kind -/
structure Pr (p q : List Int) : Prop where
  l : q.length = p.length
  l0 : 0 < p.length
  l1 : p.length ≤ 10
  p : ∀ x ∈ p, 1 ≤ x ∧ x < 2 ^ 60
  q : ∀ x ∈ q, 1 ≤ x ∧ x < 2 ^ 60
def sp_Lcut_box : DSp := fun cs R => ∃ a b c p q m, cs = [.dk a b c, .d (prD p q), .d (.int m)] ∧ Pr p q ∧ 0 < m ∧ m < 2 ^ 60 ∧ ∀ ns : List Int, IsCutBox p q ns m → R (tI ns) [.dk a b c, .d (prD p q), .d (.int m)]
def sp_Lplain_box : DSp := fun cs R => ∃ a b c p q m, cs = [.dk a b c, .d (prD p q), .d (.int m)] ∧ Pr p q ∧ 0 < m ∧ m < 2 ^ 60 ∧ ∀ ns : List Int, (IsPlainBox p ns m ∨ IsPlainBox q ns m) → R (tI ns) [.dk a b c, .d (prD p q), .d (.int m)]
def sp_Lrests : DSp := fun cs R => ∃ br bx : List Int, cs = [.d (tI br), .d (tI bx)] ∧ bx.length ≤ br.length ∧ bx.length ≤ 1000000 ∧ (∀ x ∈ br, 1 ≤ x) ∧ R (.list (lN (restsF br bx))) cs
def vol (ns : List Int) : Int := ns.foldl (fun a b => a * b) 1
def sp_Lvolume : DSp := fun cs R => ∃ ns : List Int, cs = [.d (tI ns)] ∧ (∀ x ∈ ns, -(2 ^ 64) < x ∧ x < 2 ^ 64) ∧ R (.int (vol ns)) cs
def sp_Lbox : DSp := fun cs R => ∃ a b c p q m v, cs = [.dk a b c, .d (prD p q), .d (.int m), .d (.int v)] ∧ Pr p q ∧ (∀ x ∈ p, x < 2 ^ 20) ∧ (∀ x ∈ q, x < 2 ^ 20) ∧ 0 < m ∧ m < 2 ^ 60 ∧ 1 ≤ v ∧ ∀ ns : List Int, ns.length = p.length → In v ns → vol ns ≤ v → R (tI ns) [.dk a b c, .d (prD p q), .d (.int m), .d (.int v)]
def w_Lsides : DTS := (wRet (wFn pTupOf (wCons (wOfL (wComp (iRange1 (wCons (wVar 1) wNil)) (gN 3) tT (wOp pAddB (wC (.int 1)) (wCall [true, false] sp_Ldraw (wCons (wVar 0) (wCons (wVar 2) wNil)))) [3])) wNil)))
def w_Lpair_s1 : DTS := (wSet 4 (mE (wOp pAddB (wOp pAddB (wSl pSl (wVar 3) wNoP (wPart (wVar 5))) (wTup (wCons (wOp pAddB (wC (.int 1)) (wCall [true, false] sp_Ldraw (wCons (wVar 0) (wCons (wVar 2) wNil)))) wNil))) (wSl pSl (wVar 3) (wPart (wOp pAddB (wVar 5) (wC (.int 1)))) wNoP))))
@[simp ↓] theorem w_Lpair_s1_ap (E : DEnds) (δ : DS) : w_Lpair_s1 E δ = (wSet 4 (mE (wOp pAddB (wOp pAddB (wSl pSl (wVar 3) wNoP (wPart (wVar 5))) (wTup (wCons (wOp pAddB (wC (.int 1)) (wCall [true, false] sp_Ldraw (wCons (wVar 0) (wCons (wVar 2) wNil)))) wNil))) (wSl pSl (wVar 3) (wPart (wOp pAddB (wVar 5) (wC (.int 1)))) wNoP)))) E δ := rfl
def w_Lpair_1 : DTS := (wSeq (wSet 5 (mE (wCall [true, false] sp_Ldraw (wCons (wVar 0) (wCons (wVar 1) wNil))))) w_Lpair_s1)
def w_Lpair_t1 : DTS := (wRet (wTup (wCons (wVar 3) (wCons (wVar 4) wNil))))
def w_Lpair_s2 : DTS := (wSeq (wIf (wB (wOp pEq (wCall [true, false] sp_Ldraw (wCons (wVar 0) (wCons (wC (.int 3)) wNil))) (wC (.int 0)))) w_Lpair_1 wNext) w_Lpair_t1)
@[simp ↓] theorem w_Lpair_s2_ap (E : DEnds) (δ : DS) : w_Lpair_s2 E δ = (wSeq (wIf (wB (wOp pEq (wCall [true, false] sp_Ldraw (wCons (wVar 0) (wCons (wC (.int 3)) wNil))) (wC (.int 0)))) w_Lpair_1 wNext) w_Lpair_t1) E δ := rfl
def w_Lpair : DTS := (wSeq (wPar2 3 4 (msCons (mE (wCall [true, false, false] sp_Lsides (wCons (wVar 0) (wCons (wVar 1) (wCons (wVar 2) wNil))))) (msCons (mE (wCall [true, false, false] sp_Lsides (wCons (wVar 0) (wCons (wVar 1) (wCons (wVar 2) wNil))))) msNil))) w_Lpair_s2)
def w_Lrests : DTS := (wRet (wOfL (wComp (iRange1 (wCons (wFn pLen (wCons (wVar 1) wNil)) wNil)) (gN 2) (wB (wOp pNe (wOp pMod (wFn pInt (wCons (wOp pIx (wVar 1) (wVar 2)) wNil)) (wOp pIx (wVar 0) (wVar 2))) (wC (.int 0)))) (wVar 2) [2])))
def w_Lone : DTS := (wRet (wOp pIx (wVar 1) (wCall [true, false] sp_Ldraw (wCons (wVar 0) (wCons (wFn pLen (wCons (wVar 1) wNil)) wNil)))))
def w_Lvolume_1 : DTS := (wSet 1 (mE (wOp pMulT (wVar 1) (wVar 2))))
def w_Lvolume_s1 : DTS := (wSeq (wFor (iSeq (wVar 0)) (gN 2) w_Lvolume_1) (wRet (wVar 1)))
@[simp ↓] theorem w_Lvolume_s1_ap (E : DEnds) (δ : DS) : w_Lvolume_s1 E δ = (wSeq (wFor (iSeq (wVar 0)) (gN 2) w_Lvolume_1) (wRet (wVar 1))) E δ := rfl
def w_Lvolume : DTS := (wSeq (wSet 1 (mE (wC (.int 1)))) w_Lvolume_s1)
def w_Llcm : DTS := (wRet (wOp pDiv (wOp pMulT (wVar 0) (wVar 1)) (wCall [] sp_common (wCons (wVar 0) (wCons (wVar 1) wNil)))))
def w_Lcut_box_s1 : DTS := (wRet (wFn pTupOf (wCons (wVar 4) wNil)))
@[simp ↓] theorem w_Lcut_box_s1_ap (E : DEnds) (δ : DS) : w_Lcut_box_s1 E δ = (wRet (wFn pTupOf (wCons (wVar 4) wNil))) E δ := rfl
def w_Lcut_box_1 : DTS := (wAppend 4 (wCall [] sp_Llcm (wCons (wOp pIx (wOp pIx (wVar 1) (wC (.int 0))) (wVar 5)) (wCons (wOp pIx (wOp pIx (wVar 1) (wC (.int 1))) (wVar 5)) wNil))))
def w_Lcut_box_t1 : DTS := (wSeq (wPut 4 (wOp pAddB (wOp pMulT (wOp pIx (wOp pIx (wVar 1) (wC (.int 0))) (wVar 3)) (wCall [true, false] sp_Ldraw (wCons (wVar 0) (wCons (wVar 2) wNil)))) (wOp pMulT (wOp pIx (wOp pIx (wVar 1) (wC (.int 1))) (wVar 3)) (wOp pAddB (wC (.int 1)) (wCall [true, false] sp_Ldraw (wCons (wVar 0) (wCons (wVar 2) wNil)))))) (wVar 3)) w_Lcut_box_s1)
def w_Lcut_box_s2 : DTS := (wSeq (wFor (iRange1 (wCons (wFn pLen (wCons (wOp pIx (wVar 1) (wC (.int 0))) wNil)) wNil)) (gN 5) w_Lcut_box_1) w_Lcut_box_t1)
@[simp ↓] theorem w_Lcut_box_s2_ap (E : DEnds) (δ : DS) : w_Lcut_box_s2 E δ = (wSeq (wFor (iRange1 (wCons (wFn pLen (wCons (wOp pIx (wVar 1) (wC (.int 0))) wNil)) wNil)) (gN 5) w_Lcut_box_1) w_Lcut_box_t1) E δ := rfl
def w_Lcut_box : DTS := (wSeq (wPar2 3 4 (msCons (mE (wCall [true, false] sp_Ldraw (wCons (wVar 0) (wCons (wFn pLen (wCons (wOp pIx (wVar 1) (wC (.int 0))) wNil)) wNil)))) (msCons (mL (wLst wNil)) msNil))) w_Lcut_box_s2)
def w_Lplain_box_s1 : DTS := (wRet (wFn pTupOf (wCons (wOfL (wComp (iSeq (wVar 3)) (gN 4) tT (wOp pMulT (wVar 4) (wOp pAddB (wC (.int 1)) (wCall [true, false] sp_Ldraw (wCons (wVar 0) (wCons (wVar 2) wNil))))) [4])) wNil)))
@[simp ↓] theorem w_Lplain_box_s1_ap (E : DEnds) (δ : DS) : w_Lplain_box_s1 E δ = (wRet (wFn pTupOf (wCons (wOfL (wComp (iSeq (wVar 3)) (gN 4) tT (wOp pMulT (wVar 4) (wOp pAddB (wC (.int 1)) (wCall [true, false] sp_Ldraw (wCons (wVar 0) (wCons (wVar 2) wNil))))) [4])) wNil))) E δ := rfl
def w_Lplain_box : DTS := (wSeq (wSet 3 (mE (wCall [true, false] sp_Lone (wCons (wVar 0) (wCons (wOfL (wFnL pLstOf (wCons (wVar 1) wNil))) wNil))))) w_Lplain_box_s1)
def w_Lbox_s1 : DTS := (wSet 6 (mE (wOp pAddB (wOp pAddB (wSl pSl (wVar 8) wNoP (wPart (wVar 7))) (wTup (wCons (wFn pMax2 (wCons (wC (.int 1)) (wCons (wOp pAddB (wOp pIx (wVar 8) (wVar 7)) (wCall [true, false] sp_Lone (wCons (wVar 0) (wCons (wOfL (wLst (wCons (wUn pNeg (wC (.int 1))) (wCons (wC (.int 1)) (wCons (wC (.int 2)) wNil))))) wNil)))) wNil))) wNil))) (wSl pSl (wVar 8) (wPart (wOp pAddB (wVar 7) (wC (.int 1)))) wNoP))))
@[simp ↓] theorem w_Lbox_s1_ap (E : DEnds) (δ : DS) : w_Lbox_s1 E δ = (wSet 6 (mE (wOp pAddB (wOp pAddB (wSl pSl (wVar 8) wNoP (wPart (wVar 7))) (wTup (wCons (wFn pMax2 (wCons (wC (.int 1)) (wCons (wOp pAddB (wOp pIx (wVar 8) (wVar 7)) (wCall [true, false] sp_Lone (wCons (wVar 0) (wCons (wOfL (wLst (wCons (wUn pNeg (wC (.int 1))) (wCons (wC (.int 1)) (wCons (wC (.int 2)) wNil))))) wNil)))) wNil))) wNil))) (wSl pSl (wVar 8) (wPart (wOp pAddB (wVar 7) (wC (.int 1)))) wNoP)))) E δ := rfl
def w_Lbox_s2 : DTS := (wSeq (wSet 8 (mE (wCall [true, false] sp_Lone (wCons (wVar 0) (wCons (wOfL (wLst (wCons (wCall [true, false, false] sp_Lcut_box (wCons (wVar 0) (wCons (wVar 1) (wCons (wC (.int 3)) wNil)))) (wCons (wCall [true, false, false] sp_Lplain_box (wCons (wVar 0) (wCons (wVar 1) (wCons (wC (.int 3)) wNil)))) wNil)))) wNil))))) w_Lbox_s1)
@[simp ↓] theorem w_Lbox_s2_ap (E : DEnds) (δ : DS) : w_Lbox_s2 E δ = (wSeq (wSet 8 (mE (wCall [true, false] sp_Lone (wCons (wVar 0) (wCons (wOfL (wLst (wCons (wCall [true, false, false] sp_Lcut_box (wCons (wVar 0) (wCons (wVar 1) (wCons (wC (.int 3)) wNil)))) (wCons (wCall [true, false, false] sp_Lplain_box (wCons (wVar 0) (wCons (wVar 1) (wCons (wC (.int 3)) wNil)))) wNil)))) wNil))))) w_Lbox_s1) E δ := rfl
def w_Lbox_1 : DTS := (wSeq (wSet 7 (mE (wCall [true, false] sp_Ldraw (wCons (wVar 0) (wCons (wFn pLen (wCons (wVar 6) wNil)) wNil))))) w_Lbox_s2)
def w_Lbox_t1 : DTS := (wIf (wB (wOp pLe (wCall [] sp_Lvolume (wCons (wVar 6) wNil)) (wVar 3))) (wRet (wVar 6)) wNext)
def w_Lbox_3 : DTS := (wSet 6 (mE (wCall [true, false, false] sp_Lplain_box (wCons (wVar 0) (wCons (wVar 1) (wCons (wC (.int 3)) wNil))))))
def w_Lbox_t2 : DTS := (wSeq (wIf (wB (wOp pEq (wVar 5) (wC (.int 2)))) w_Lbox_1 wNext) w_Lbox_t1)
def w_Lbox_5 : DTS := (wSet 6 (mE (wCall [true, false, false] sp_Lcut_box (wCons (wVar 0) (wCons (wVar 1) (wCons (wC (.int 3)) wNil))))))
def w_Lbox_t3 : DTS := (wSeq (wIf (wB (wOp pEq (wVar 5) (wC (.int 1)))) w_Lbox_3 wNext) w_Lbox_t2)
def w_Lbox_s3 : DTS := (wSeq (wIf (wB (wOp pEq (wVar 5) (wC (.int 0)))) w_Lbox_5 wNext) w_Lbox_t3)
@[simp ↓] theorem w_Lbox_s3_ap (E : DEnds) (δ : DS) : w_Lbox_s3 E δ = (wSeq (wIf (wB (wOp pEq (wVar 5) (wC (.int 0)))) w_Lbox_5 wNext) w_Lbox_t3) E δ := rfl
def w_Lbox_s4 : DTS := (wSeq (wSet 6 (mE (wCall [true, false, false] sp_Lsides (wCons (wVar 0) (wCons (wFn pLen (wCons (wOp pIx (wVar 1) (wC (.int 0))) wNil)) (wCons (wVar 2) wNil)))))) w_Lbox_s3)
@[simp ↓] theorem w_Lbox_s4_ap (E : DEnds) (δ : DS) : w_Lbox_s4 E δ = (wSeq (wSet 6 (mE (wCall [true, false, false] sp_Lsides (wCons (wVar 0) (wCons (wFn pLen (wCons (wOp pIx (wVar 1) (wC (.int 0))) wNil)) (wCons (wVar 2) wNil)))))) w_Lbox_s3) E δ := rfl
def w_Lbox_7 : DTS := (wSeq (wSet 5 (mE (wCall [true, false] sp_Ldraw (wCons (wVar 0) (wCons (wC (.int 4)) wNil))))) w_Lbox_s4)
def w_Lbox_t4 : DTS := (wRet (wOp pMulT (wTup (wCons (wC (.int 1)) wNil)) (wFn pLen (wCons (wOp pIx (wVar 1) (wC (.int 0))) wNil))))
def w_Lbox : DTS := (wSeq (wFor (iRange1 (wCons (wC (.int 12)) wNil)) (gN 4) w_Lbox_7) w_Lbox_t4)
theorem ln_Lsides : ∀ cs R, sp_Lsides cs R → cs.length = 3 := by
  intro cs R h
  unfold sp_Lsides at h
  repeat (obtain ⟨_, h⟩ := h)
  subst_vars; rfl
theorem ln_Lpair : ∀ cs R, sp_Lpair cs R → cs.length = 3 := by
  intro cs R h
  unfold sp_Lpair at h
  repeat (obtain ⟨_, h⟩ := h)
  subst_vars; rfl
theorem ln_Lrests : ∀ cs R, sp_Lrests cs R → cs.length = 2 := by
  intro cs R h
  unfold sp_Lrests at h
  repeat (obtain ⟨_, h⟩ := h)
  subst_vars; rfl
theorem ln_Lone : ∀ cs R, sp_Lone cs R → cs.length = 2 := by
  intro cs R h
  unfold sp_Lone at h
  repeat (obtain ⟨_, h⟩ := h)
  subst_vars; rfl
theorem ln_Lvolume : ∀ cs R, sp_Lvolume cs R → cs.length = 1 := by
  intro cs R h
  unfold sp_Lvolume at h
  repeat (obtain ⟨_, h⟩ := h)
  subst_vars; rfl
theorem ln_Llcm : ∀ cs R, sp_Llcm cs R → cs.length = 2 := by
  intro cs R h
  unfold sp_Llcm at h
  repeat (obtain ⟨_, h⟩ := h)
  subst_vars; rfl
theorem ln_Lcut_box : ∀ cs R, sp_Lcut_box cs R → cs.length = 3 := by
  intro cs R h
  unfold sp_Lcut_box at h
  repeat (obtain ⟨_, h⟩ := h)
  subst_vars; rfl
theorem ln_Lplain_box : ∀ cs R, sp_Lplain_box cs R → cs.length = 3 := by
  intro cs R h
  unfold sp_Lplain_box at h
  repeat (obtain ⟨_, h⟩ := h)
  subst_vars; rfl
theorem ln_Lbox : ∀ cs R, sp_Lbox cs R → cs.length = 4 := by
  intro cs R h
  unfold sp_Lbox at h
  repeat (obtain ⟨_, h⟩ := h)
  subst_vars; rfl
end TW
set_option Elab.async false
set_option linter.all false
set_option maxRecDepth 100000
set_option maxHeartbeats 4000000
namespace TW
open PySem PySem.Spec PyProof.Rows L2 DL
theorem rd_Lone : ∀ cs R, sp_Lone cs R → w_Lone (endsOf cs R) (start0 2 cs) := by
  rintro _ R ⟨a, b, c, d, xs, rfl, hd, h0, h1, hR⟩
  cases d with
  | list ds =>
    cases hd
    simp -implicitDefEqProofs -dsimp [w_Lone]
    refine ask_draw (by omega) (by omega) fun r q0 q1 => ?_
    (try simp -implicitDefEqProofs -dsimp)
    obtain ⟨z, hz, e⟩ := atI_ex (xs := xs) q0 q1
    exact onS_of e (by simp -implicitDefEqProofs -dsimp; exact hR z hz)
  | tuple ds =>
    cases hd
    simp -implicitDefEqProofs -dsimp [w_Lone]
    refine ask_draw (by omega) (by omega) fun r q0 q1 => ?_
    (try simp -implicitDefEqProofs -dsimp)
    obtain ⟨z, hz, e⟩ := atI_ex (xs := xs) q0 q1
    exact onS_of e (by simp -implicitDefEqProofs -dsimp; exact hR z hz)
  | _ => cases hd
theorem rd_Lsides : ∀ cs R, sp_Lsides cs R → w_Lsides (endsOf cs R) (start0 4 cs) := by
  rintro _ R ⟨a, b, c, n, m, rfl, h0, h1, h2, h3, hR⟩
  simp -implicitDefEqProofs -dsimp [w_Lsides]
  refine ⟨by omega, by omega, ?_⟩
  refine com_ints (fun i => 1 ≤ i ∧ i ≤ m) (fun x hx acc K hK => ?_) fun ns hl hn => ?_
  · (try simp -implicitDefEqProofs -dsimp)
    refine ask_draw h2 (by omega) fun r q0 q1 => ?_
    (try simp -implicitDefEqProofs -dsimp)
    exact hK _ ⟨by omega, by omega⟩
  · (try simp -implicitDefEqProofs -dsimp)
    exact hR ns (by simpa [nums] using hl) hn
theorem cutD_drop {α : Type} (xs : List α) (n : Nat) : cutD xs (some (n : Int)) none = xs.drop n := by
  unfold DL.cutD
  rw [HT.sIx_none, HT.sIx_nat]
  by_cases h : n ≤ xs.length
  · rw [Nat.min_eq_left h, List.take_of_length_le (by simp)]
  · rw [Nat.min_eq_right (by omega), List.drop_of_length_le (show xs.length ≤ xs.length by omega), List.drop_of_length_le (by omega)]; simp
theorem cutD_drop1 {α : Type} (xs : List α) (n : Nat) : cutD xs (some ((n : Int) + 1)) none = xs.drop (n + 1) := cutD_drop xs (n + 1)
theorem put_at {α : Type} {xs : List α} {n : Nat} {y : α} (h : n < xs.length) : xs.take n ++ (y :: xs.drop (n + 1)) = xs.set n y := by
  rw [List.set_eq_take_append_cons_drop, if_pos h]
/-- x[:i] + (d,) + x[i + 1:] -/
theorem cut_put {xs : List PyData} {n : Nat} {y : PyData} (h : n < xs.length) : cutD xs none (some (n : Int)) ++ [y] ++ cutD xs (some ((n : Int) + 1)) none = xs.set n y := by
  rw [cutD_take, cutD_drop1, List.append_assoc, List.singleton_append, put_at h]
theorem In.set {m y : Int} {ns : List Int} {n : Nat} (h : In m ns) (h0 : 1 ≤ y) (h1 : y ≤ m) : In m (ns.set n y) := fun x hx => by
  rcases List.mem_or_eq_of_mem_set hx with q | q
  · exact h x q
  · subst q; exact ⟨h0, h1⟩
theorem rd_Lpair : ∀ cs R, sp_Lpair cs R → w_Lpair (endsOf cs R) (start0 6 cs) := by
  rintro _ R ⟨a, b, c, n, m, rfl, h0, h1, h2, h3, hR⟩
  simp -implicitDefEqProofs -dsimp [w_Lpair]
  refine ask_of ⟨a, b, c, n, m, rfl, by omega, by omega, h2, h3, fun p hp ip => ?_⟩
  (try simp -implicitDefEqProofs -dsimp)
  refine ask_of ⟨a, b, c, n, m, rfl, by omega, by omega, h2, h3, fun q hq iq => ?_⟩
  (try simp -implicitDefEqProofs -dsimp)
  refine ask_draw (by omega) (by omega) fun r q0 q1 => ?_
  (try simp -implicitDefEqProofs -dsimp)
  split
  · simp -implicitDefEqProofs -dsimp [w_Lpair_1]
    refine ask_draw (by omega) (by omega) fun t t0 t1 => ?_
    (try simp -implicitDefEqProofs -dsimp)
    refine ask_draw (by omega) (by omega) fun u u0 u1 => ?_
    obtain ⟨k, rfl⟩ : ∃ k : Nat, t = k := ⟨t.toNat, by omega⟩
    have e := cut_put (xs := lI p) (n := k) (y := .int (1 + u)) (by simp; omega)
    simp only [lI, List.append_assoc, List.singleton_append] at e
    simp -implicitDefEqProofs -dsimp [w_Lpair_t1, e]
    have l1 : (DL.cutD (lI p) none (some ↑k)).length ≤ 1000 := by rw [cutD_take]; simp; omega
    have l2 : (DL.cutD (lI p) (some (↑k + 1)) none).length ≤ 1000 := by rw [cutD_drop1]; simp; omega
    refine ⟨by omega, by omega, ?_⟩
    rw [← List.map_set]
    exact hR p (p.set k (1 + u)) hp (by simpa using hp) ip (ip.set (by omega) (by omega))
  · simp -implicitDefEqProofs -dsimp [w_Lpair_t1]
    exact hR p q hp hq ip iq
theorem lcm_pos {a b : Int} (ha : 1 ≤ a) (hb : 1 ≤ b) : 1 ≤ lcmI a b ∧ lcmI a b ≤ a * b ∧ a ∣ lcmI a b ∧ b ∣ lcmI a b := by
  obtain ⟨g0, g1⟩ := gcd_le (b := b) ha
  obtain ⟨a', ea⟩ := gcd_dvd_l a b
  obtain ⟨b', eb⟩ := gcd_dvd_r a b
  unfold lcmI
  have e1 : a * b / gcdI a b = a * b' := by
    conv => lhs; rw [show a * b = gcdI a b * (a * b') by rw [Int.mul_left_comm, ← eb]]
    exact Int.mul_ediv_cancel_left _ (by omega)
  have e2 : a * b / gcdI a b = b * a' := by
    conv => lhs; rw [show a * b = gcdI a b * (b * a') by rw [Int.mul_left_comm, ← ea, Int.mul_comm]]
    exact Int.mul_ediv_cancel_left _ (by omega)
  have p : 0 < b' := Int.pos_of_mul_pos_right (a := gcdI a b) (b := b') (by rw [← eb]; omega) (by omega)
  have q := Int.mul_le_mul_of_nonneg_left (show (1 : Int) ≤ b' by omega) (show 0 ≤ a by omega)
  have r : b' ≤ b := by
    have := Int.mul_le_mul_of_nonneg_right g0 (show 0 ≤ b' by omega)
    omega
  have s := Int.mul_le_mul_of_nonneg_left r (show 0 ≤ a by omega)
  refine ⟨by rw [e1]; omega, by rw [e1]; omega, ⟨b', e1⟩, ⟨a', e2⟩⟩
theorem rd_Llcm : ∀ cs R, sp_Llcm cs R → w_Llcm (endsOf cs R) (start0 2 cs) := by
  rintro _ R ⟨a, b, rfl, ⟨a0, a1⟩, ⟨b0, b1⟩, hR⟩
  obtain ⟨g0, g1⟩ := gcd_le (b := b) a0
  have B := BIG_ge
  simp -implicitDefEqProofs -dsimp [w_Llcm]
  refine ⟨mul_big (by omega) (by omega) (by omega) (by omega), ask_of ⟨a, b, rfl, by omega, by omega, ?_⟩⟩
  (try simp -implicitDefEqProofs -dsimp)
  exact ⟨div_big (by omega) (by omega), hR⟩
theorem Pr.at {p q : List Int} (h : Pr p q) {i : Nat} (hi : i < p.length) : p[i]? = some (gi p i) ∧ q[i]? = some (gi q i) ∧ (1 ≤ gi p i ∧ gi p i < 2 ^ 60) ∧ (1 ≤ gi q i ∧ gi q i < 2 ^ 60) :=
  have hj : i < q.length := by have := h.l; omega
  ⟨gi_at hi, gi_at hj, h.p _ (gi_mem hi), h.q _ (gi_mem hj)⟩
theorem pos60 {x : Int} (h : 1 ≤ x ∧ x < 2 ^ 60) : Pos x := Pos.of h.1 (by omega)
theorem gi_set {ns : List Int} {i k : Nat} {y : Int} (hi : i < ns.length) : gi (ns.set k y) i = if i = k then y else gi ns i := by
  unfold gi
  rw [List.getElem?_set]
  by_cases h : k = i
  · subst h; simp [hi]
  · rw [if_neg h, if_neg (fun e => h e.symm)]
theorem rd_Lcut_box : ∀ cs R, sp_Lcut_box cs R → w_Lcut_box (endsOf cs R) (start0 6 cs) := by
  rintro _ R ⟨a, b, c, p, q, m, rfl, h, h0, h1, hR⟩
  have l0 := h.l0
  have l1 := h.l1
  simp -implicitDefEqProofs -dsimp [w_Lcut_box]
  refine ask_draw (by omega) (by omega) fun t t0 t1 => ?_
  obtain ⟨ax, rfl⟩ : ∃ k : Nat, t = k := ⟨t.toNat, by omega⟩
  (try simp -implicitDefEqProofs -dsimp)
  intro fa
  refine ⟨by omega, ?_⟩
  rw [nums_0]
  refine for_plain (List.range p.length) _ rfl (fun rest δ => ∃ (c5 : Cell) (done : Nat), done + rest.length = p.length ∧ rest = (List.range' done (p.length - done)) ∧ δ = [.dk a b c, .d (prD p q), .d (.int m), .d (.int (ax : Nat)), .ol fa (lI ((List.range done).map fun i => lcmI (gi p i) (gi q i))), c5]) ⟨_, 0, by simp, by simp [List.range_eq_range'], rfl⟩ ?_ ?_
  · rintro δ ⟨c5, done, hd, _, rfl⟩
    have : done = p.length := by simpa using hd
    subst this
    obtain ⟨ep, eq, ip, iq⟩ := h.at (i := ax) (by omega)
    simp -implicitDefEqProofs -dsimp [w_Lcut_box_t1, ep, eq]
    refine ask_draw (by omega) (by omega) fun x x0 x1 => ?_
    simp -implicitDefEqProofs -dsimp [ep, eq]
    refine ⟨cm_l (by omega), ask_draw (by omega) (by omega) fun y y0 y1 => ?_⟩
    refine ⟨cm_l (by omega), ⟨fa, _, rfl⟩, ax, ?_, ?_⟩
    · rw [ixN_nn (by omega) (by simp; omega)]; simp
    · (try simp -implicitDefEqProofs -dsimp)
      have e : List.map (PyData.int ∘ fun i => lcmI (gi p i) (gi q i)) (List.range p.length) = lI ((List.range p.length).map fun i => lcmI (gi p i) (gi q i)) := by simp [lI]
      rw [e, ← List.map_set]
      refine hR _ ⟨by simp, ax, x, 1 + y, by omega, x0, x1, by omega, by omega, fun i hi => ?_⟩
      rw [gi_set (by simpa using hi)]
      by_cases z : i = ax
      · subst z; simp
      · rw [if_neg z, if_neg z, gi_range hi]
  · rintro i rest δ ⟨c5, done, hd, hr, rfl⟩ K B T hK
    have hlt : done < p.length := by simp at hd; omega
    rw [show p.length - done = (p.length - done - 1) + 1 by omega, List.range'_succ, List.cons.injEq] at hr
    obtain ⟨rfl, hr⟩ := hr
    obtain ⟨ep, eq, ip, iq⟩ := h.at hlt
    simp -implicitDefEqProofs -dsimp [w_Lcut_box_1, ep, eq]
    refine ⟨⟨fa, _, rfl⟩, ask_of ⟨_, _, rfl, pos60 ip, pos60 iq, ?_⟩⟩
    (try simp -implicitDefEqProofs -dsimp)
    have e : List.map (PyData.int ∘ fun i => lcmI (gi p i) (gi q i)) (List.range i) ++ [PyData.int (lcmI (gi p i) (gi q i))] = lI ((List.range (i + 1)).map fun i => lcmI (gi p i) (gi q i)) := by simp [List.range_succ]
    rw [e]
    exact ⟨by omega, hK _ ⟨_, i + 1, by simp at hd; omega, by rw [hr]; congr 1, rfl⟩⟩
theorem IsPlainBox.of {p ns : List Int} {m : Int} (hl : ns.length = p.length) (h : ∀ i, i < p.length → ∃ k, 1 ≤ k ∧ k ≤ m ∧ gi ns i = gi p i * k) : IsPlainBox p ns m := ⟨hl, h⟩
/-- each item by one of many, place by place -/
theorem com_gi {g : DTG} {t : DT} {e : DE} {vs : List Nat} {δ : DS} {xs : List Int} {R : List PyData → DS → Prop} {u : Stop R} (P : Int → Int → Prop)
    (hs : ∀ x ∈ xs, ∀ (acc : List PyData) (K : List PyData → DS → Prop), (∀ y, P x y → K (acc ++ [.int y]) δ) → g (.int x) δ fun δ1 => t δ1 fun b δ2 => if b = true then e δ2 fun o δ3 => lk o δ3 fun y δ4 => K (acc ++ [y]) (wipeD δ4 vs) else K acc (wipeD δ2 vs)) (k : ∀ ns : List Int, ns.length = xs.length → (∀ i, i < xs.length → P (gi xs i) (gi ns i)) → R (lI ns) δ) : comC g t e vs (lI xs) [] δ R u := by
  refine com_inv (fun ys acc δ' => δ' = δ ∧ ∃ (pre post ns : List Int), xs = pre ++ post ∧ ys = lI post ∧ acc = lI ns ∧ ns.length = pre.length ∧ ∀ i, i < pre.length → P (gi pre i) (gi ns i)) ⟨rfl, [], xs, [], rfl, rfl, rfl, rfl, by simp⟩ ?_ ?_
  · rintro acc δ' ⟨rfl, pre, post, ns, he, hy, rfl, hl, hp⟩
    have : post = [] := by
      cases post with
      | nil => rfl
      | cons => cases hy
    subst this
    have : pre = xs := by rw [he]; simp
    subst this
    exact k ns hl hp
  · rintro x ys acc δ' ⟨rfl, pre, post, ns, he, hy, rfl, hl, hp⟩ K hK
    cases post with
    | nil => cases hy
    | cons z post =>
      simp only [lI, List.map_cons, List.cons.injEq] at hy
      obtain ⟨rfl, rfl⟩ := hy
      refine hs z (by rw [he]; simp) _ K fun y py => hK _ _ ⟨rfl, pre ++ [z], post, ns ++ [y], by rw [he]; simp, rfl, by simp, by simp [hl], fun i hi => ?_⟩
      by_cases c : i < pre.length
      · have e1 : gi (pre ++ [z]) i = gi pre i := by unfold gi; rw [List.getElem?_append_left c]
        have e2 : gi (ns ++ [y]) i = gi ns i := by unfold gi; rw [List.getElem?_append_left (by omega)]
        rw [e1, e2]; exact hp i c
      · have : i = pre.length := by simp at hi; omega
        subst this
        have e1 : gi (pre ++ [z]) pre.length = z := by unfold gi; simp
        have e2 : gi (ns ++ [y]) pre.length = y := by unfold gi; rw [← hl]; simp
        rw [e1, e2]; exact py
theorem rd_Lplain_box : ∀ cs R, sp_Lplain_box cs R → w_Lplain_box (endsOf cs R) (start0 5 cs) := by
  rintro _ R ⟨a, b, c, p, q, m, rfl, h, h0, h1, hR⟩
  simp -implicitDefEqProofs -dsimp [w_Lplain_box]
  refine ask_of ⟨a, b, c, _, _, rfl, rfl, by simp, by simp, fun x hx => ?_⟩
  have main : ∀ br : List Int, (∀ x ∈ br, 1 ≤ x ∧ x < 2 ^ 60) → (∀ ns, IsPlainBox br ns m → R (tI ns) [.dk a b c, .d (prD p q), .d (.int m)]) →
      comC (gN 4) tT (wOp pMulT (wVar 4) (wOp pAdd (wC (.int 1)) (wCall [true, false] sp_Ldraw (wCons (wVar 0) (wCons (wVar 2) wNil))))) [4] (lI br) [] [.dk a b c, .d (prD p q), .d (.int m), .d (tI br), .em] (fun ys δ2 => (endsOf [.dk a b c, .d (prD p q), .d (.int m)] R).rt (.tuple ys) (backD [.dk a b c, .d (prD p q), .d (.int m), .d (tI br), .em] δ2 [4])) .mk := fun br hb hk => by
    refine com_gi (fun x y => ∃ k, 1 ≤ k ∧ k ≤ m ∧ y = x * k) (fun x hx acc K hK => ?_) fun ns hl hn => ?_
    · (try simp -implicitDefEqProofs -dsimp)
      refine ask_draw h0 (by omega) fun r q0 q1 => ?_
      (try simp -implicitDefEqProofs -dsimp)
      have := hb x hx
      exact ⟨cm_l (by omega), hK _ ⟨1 + r, by omega, by omega, rfl⟩⟩
    · (try simp -implicitDefEqProofs -dsimp)
      exact hk ns ⟨hl, hn⟩
  rcases List.mem_cons.mp hx with rfl | hx
  · (try simp -implicitDefEqProofs -dsimp)
    exact main p h.p fun ns hn => hR ns (.inl hn)
  · have hx := List.mem_singleton.mp hx
    subst hx
    (try simp -implicitDefEqProofs -dsimp)
    exact main q h.q fun ns hn => hR ns (.inr hn)
theorem rd_Lrests : ∀ cs R, sp_Lrests cs R → w_Lrests (endsOf cs R) (start0 3 cs) := by
  rintro _ R ⟨br, bx, rfl, hl, hl2, hb, hR⟩
  simp -implicitDefEqProofs -dsimp [w_Lrests]
  refine ⟨by omega, ?_⟩
  rw [nums_0]
  refine com_map (List.range bx.length) _ rfl (fun i => if (!decide (gi bx i % gi br i = 0)) = true then some (.int (i : Nat)) else none) (fun i hi acc K hK => ?_) ?_
  · have hi := List.mem_range.mp hi
    have p := hb _ (gi_mem (ns := br) (i := i) (by omega))
    simp -implicitDefEqProofs -dsimp [gi_at (ns := br) (i := i) (by omega), gi_at hi]
    refine ⟨by omega, ?_⟩
    split
    · rename_i z
      simpa [z] using hK
    · rename_i z
      simpa [z] using hK
  · rw [fm_map]
    (try simp -implicitDefEqProofs -dsimp)
    exact hR
theorem foldl_app {ns : List Int} {x y : Int} : (ns ++ [x]).foldl (fun a b => a * b) y = ns.foldl (fun a b => a * b) y * x := by simp
theorem rd_Lvolume : ∀ cs R, sp_Lvolume cs R → w_Lvolume (endsOf cs R) (start0 3 cs) := by
  rintro _ R ⟨ns, rfl, h, hR⟩
  simp -implicitDefEqProofs -dsimp [w_Lvolume]
  refine for_plain ns _ rfl (fun rest δ => ∃ (c2 : Cell) (pre : List Int), ns = pre ++ rest ∧ δ = [.d (tI ns), .d (.int (vol pre)), c2]) ⟨_, [], rfl, rfl⟩ ?_ ?_
  · rintro δ ⟨c2, pre, he, rfl⟩
    have : pre = ns := by rw [he]; simp
    subst this
    (try simp -implicitDefEqProofs -dsimp)
    exact hR
  · rintro x rest δ ⟨c2, pre, he, rfl⟩ K B T hK
    have := h x (by rw [he]; simp)
    simp -implicitDefEqProofs -dsimp [w_Lvolume_1]
    have e : vol pre * x = vol (pre ++ [x]) := by unfold vol; rw [foldl_app]
    rw [e]
    exact ⟨cm_r (by omega), hK _ ⟨_, pre ++ [x], by rw [he]; simp, rfl⟩⟩
theorem eqv_natsA : ∀ (as bs : List Nat), PyData.eqvAll (lN as) (lN bs) = decide (as = bs)
  | [], [] => by simp [PyData.eqvAll]
  | [], _ :: _ => by simp [PyData.eqvAll]
  | _ :: _, [] => by simp [PyData.eqvAll]
  | a :: as, b :: bs => by
    have := eqv_natsA as bs
    simp only [lN, List.map_cons, PyData.eqvAll, PyData.eqv] at this ⊢
    rw [this]
    by_cases h : a = b
    · subst h; simp
    · have : ¬ ((a : Int) = (b : Int)) := by omega
      simp [h, this]
theorem vol_cons (x : Int) (xs : List Int) : vol (x :: xs) = x * vol xs := by
  unfold vol
  have : ∀ (l : List Int) (y z : Int), l.foldl (fun a b => a * b) (y * z) = y * l.foldl (fun a b => a * b) z := by
    intro l
    induction l with
    | nil => intros; rfl
    | cons w l ih => intro y z; simp only [List.foldl_cons]; rw [Int.mul_assoc, ih]
  rw [List.foldl_cons, Int.one_mul, ← this xs x 1, Int.mul_one]
theorem vol_pos : ∀ {ns : List Int}, (∀ x ∈ ns, 1 ≤ x) → 1 ≤ vol ns
  | [], _ => by simp [vol]
  | x :: xs, h => by
    have a := h x (List.mem_cons_self ..)
    have b := vol_pos fun y hy => h y (List.mem_cons_of_mem _ hy)
    rw [vol_cons]
    have := Int.mul_le_mul a b (by omega) (by omega)
    omega
theorem vol_ge : ∀ {ns : List Int}, (∀ x ∈ ns, 1 ≤ x) → ∀ x ∈ ns, x ≤ vol ns
  | [], _, x, hx => by cases hx
  | y :: ys, h, x, hx => by
    have a := h y (List.mem_cons_self ..)
    have h' : ∀ z ∈ ys, 1 ≤ z := fun z hz => h z (List.mem_cons_of_mem _ hz)
    have b := vol_pos h'
    rw [vol_cons]
    rcases List.mem_cons.mp hx with rfl | hx
    · have := Int.mul_le_mul_of_nonneg_left b (show 0 ≤ x by omega)
      omega
    · have c := vol_ge h' x hx
      have := Int.mul_le_mul_of_nonneg_right a (show 0 ≤ vol ys by omega)
      omega
theorem vol_in {ns : List Int} {v : Int} (h : ∀ x ∈ ns, 1 ≤ x) (hv : vol ns ≤ v) : In v ns := fun x hx => ⟨h x hx, by have := vol_ge h x hx; omega⟩
/-- a side of any box that is drawn -/
def Mid (B : Int) (p ns : List Int) : Prop := ns.length = p.length ∧ ∀ x ∈ ns, 1 ≤ x ∧ x < B
theorem mid_of {B : Int} {p ns : List Int} (hl : ns.length = p.length) (h : ∀ i, i < p.length → 1 ≤ gi ns i ∧ gi ns i < B) : Mid B p ns := ⟨hl, fun x hx => by
  obtain ⟨i, hi, e⟩ := List.mem_iff_getElem.mp hx
  have := h i (by omega)
  have g := gi_at hi
  rw [List.getElem?_eq_getElem hi, e] at g
  rw [← Option.some.inj g] at this
  exact this⟩
theorem cut_mid {p q ns : List Int} (h : Pr p q) (hp : ∀ x ∈ p, x < 2 ^ 20) (hq : ∀ x ∈ q, x < 2 ^ 20) (c : IsCutBox p q ns 3) : Mid (2 ^ 50) p ns := by
  obtain ⟨hl, ax, x, y, hax, x0, x1, y0, y1, e⟩ := c
  refine mid_of hl fun i hi => ?_
  obtain ⟨_, _, ip, iq⟩ := h.at hi
  have a1 := hp _ (gi_mem hi)
  have b1 := hq _ (gi_mem (show i < q.length by have := h.l; omega))
  rw [e i hi]
  split
  · have u1 := Int.mul_le_mul_of_nonneg_left (show x ≤ 3 by omega) (show 0 ≤ gi p i by omega)
    have u2 := Int.mul_le_mul_of_nonneg_left (show y ≤ 3 by omega) (show 0 ≤ gi q i by omega)
    have u3 := Int.mul_le_mul_of_nonneg_left y0 (show 0 ≤ gi q i by omega)
    have u4 := Int.mul_nonneg (show 0 ≤ gi p i by omega) x0
    omega
  · obtain ⟨u1, u2, _⟩ := lcm_pos ip.1 iq.1
    have := Int.mul_le_mul (show gi p i ≤ 2 ^ 20 by omega) (show gi q i ≤ 2 ^ 20 by omega) (by omega) (by omega)
    omega
theorem plain_mid {p br ns : List Int} (hl : br.length = p.length) (hb : ∀ x ∈ br, 1 ≤ x ∧ x < 2 ^ 60) (hp : ∀ x ∈ br, x < 2 ^ 20) (c : IsPlainBox br ns 3) : Mid (2 ^ 50) p ns := by
  refine mid_of (by rw [c.1, hl]) fun i hi => ?_
  obtain ⟨k, k0, k1, e⟩ := c.2 i (by omega)
  have a1 := hp _ (gi_mem (show i < br.length by omega))
  have a2 := hb _ (gi_mem (show i < br.length by omega))
  rw [e]
  have u1 := Int.mul_le_mul_of_nonneg_left (show k ≤ 3 by omega) (show 0 ≤ gi br i by omega)
  have u2 := Int.mul_le_mul_of_nonneg_left k0 (show 0 ≤ gi br i by omega)
  omega
/-- the end of a turn -/
theorem rd_Lbox_t1 {E : DEnds} {a b c : Addr} {p ns : List Int} {pr : PyData} {m v : Int} {c4 c5 c7 c8 : Cell} (h : Mid (2 ^ 62) p ns)
    (k0 : vol ns ≤ v → E.rt (tI ns) [.dk a b c, .d pr, .d (.int m), .d (.int v), c4, c5, .d (tI ns), c7, c8])
    (k1 : E.nx [.dk a b c, .d pr, .d (.int m), .d (.int v), c4, c5, .d (tI ns), c7, c8]) :
    w_Lbox_t1 E [.dk a b c, .d pr, .d (.int m), .d (.int v), c4, c5, .d (tI ns), c7, c8] := by
  simp -implicitDefEqProofs -dsimp [w_Lbox_t1]
  refine ask_of ⟨ns, rfl, fun x hx => by have := h.2 x hx; omega, ?_⟩
  (try simp -implicitDefEqProofs -dsimp)
  split
  · rename_i z
    exact k0 z
  · exact k1
theorem rd_Lbox_1 {E : DEnds} {a b c : Addr} {p q ns : List Int} {m v : Int} {c4 c5 c7 c8 : Cell} (h : Pr p q) (hp : ∀ x ∈ p, x < 2 ^ 20) (hq : ∀ x ∈ q, x < 2 ^ 20) (hn : Mid (2 ^ 62) p ns)
    (k : ∀ ns', Mid (2 ^ 62) p ns' → ∀ c7 c8, E.nx [.dk a b c, .d (prD p q), .d (.int m), .d (.int v), c4, c5, .d (tI ns'), c7, c8]) :
    w_Lbox_1 E [.dk a b c, .d (prD p q), .d (.int m), .d (.int v), c4, c5, .d (tI ns), c7, c8] := by
  have l0 := h.l0
  have l1 := h.l1
  have ln := hn.1
  simp -implicitDefEqProofs -dsimp [w_Lbox_1]
  refine ask_draw (by omega) (by omega) fun t t0 t1 => ?_
  obtain ⟨at', rfl⟩ : ∃ k : Nat, t = k := ⟨t.toNat, by omega⟩
  (try simp -implicitDefEqProofs -dsimp)
  refine ask_of ⟨a, b, c, p, q, 3, rfl, h, by omega, by omega, fun n1 h1 => ?_⟩
  (try simp -implicitDefEqProofs -dsimp)
  refine ask_of ⟨a, b, c, p, q, 3, rfl, h, by omega, by omega, fun n2 h2 => ?_⟩
  (try simp -implicitDefEqProofs -dsimp)
  refine ask_of ⟨a, b, c, _, _, rfl, rfl, by simp, by simp, fun x hx => ?_⟩
  have : ∃ n3, x = tI n3 ∧ Mid (2 ^ 50) p n3 := by
    rcases List.mem_cons.mp hx with rfl | hx
    · exact ⟨n1, rfl, cut_mid h hp hq h1⟩
    · have hx := List.mem_singleton.mp hx
      subst hx
      refine ⟨n2, rfl, ?_⟩
      rcases h2 with h2 | h2
      · exact plain_mid rfl h.p hp h2
      · exact plain_mid h.l h.q hq h2
  obtain ⟨n3, rfl, h3⟩ := this
  have l3 := h3.1
  simp -implicitDefEqProofs -dsimp [gi_at (show at' < n3.length by omega)]
  have g3 := h3.2 _ (gi_mem (show at' < n3.length by omega))
  refine ask_of ⟨a, b, c, _, _, rfl, rfl, by simp, by simp, fun y hy => ?_⟩
  have : ∃ z : Int, y = .int z ∧ -1 ≤ z ∧ z ≤ 2 := by
    simp only [List.mem_cons, List.not_mem_nil, or_false] at hy
    rcases hy with rfl | rfl | rfl
    · exact ⟨-1, rfl, by omega, by omega⟩
    · exact ⟨1, rfl, by omega, by omega⟩
    · exact ⟨2, rfl, by omega, by omega⟩
  obtain ⟨z, rfl, z0, z1⟩ := this
  have hw : ∀ y, DL.cutD (lI n3) none (some (at' : Int)) ++ (y :: DL.cutD (lI n3) (some ((at' : Int) + 1)) none) = (lI n3).set at' y := fun y => by
    have := cut_put (xs := lI n3) (n := at') (y := y) (by simp; omega)
    simpa only [List.append_assoc, List.singleton_append] using this
  simp only [lI] at hw
  simp -implicitDefEqProofs -dsimp [hw]
  have e1 : (DL.cutD (lI n3) none (some ↑at')).length ≤ 1000 := by rw [cutD_take]; simp; omega
  have e2 : (DL.cutD (lI n3) (some (↑at' + 1)) none).length ≤ 1000 := by rw [cutD_drop1]; simp; omega
  refine ⟨by omega, by omega, ?_⟩
  rw [← List.map_set]
  refine k _ ⟨by simpa using l3, fun x hx => ?_⟩ _ _
  rcases List.mem_or_eq_of_mem_set hx with q | q
  · have := h3.2 x q; omega
  · subst q
    split <;> omega
theorem rd_Lbox_for {E : DEnds} {a b c : Addr} {p q : List Int} {m v : Int} {c4 c5 c6 c7 c8 : Cell} {u : Stop E} {xs : List PyData} (h : Pr p q) (hp : ∀ x ∈ p, x < 2 ^ 20) (hq : ∀ x ∈ q, x < 2 ^ 20) (m0 : 0 < m) (m1 : m < 2 ^ 60)
    (k0 : ∀ ns, Mid (2 ^ 62) p ns → vol ns ≤ v → ∀ c4 c5 c7 c8, E.rt (tI ns) [.dk a b c, .d (prD p q), .d (.int m), .d (.int v), c4, c5, .d (tI ns), c7, c8])
    (k1 : ∀ c4 c5 c6 c7 c8, E.nx [.dk a b c, .d (prD p q), .d (.int m), .d (.int v), c4, c5, c6, c7, c8]) :
    forC (gN 4) w_Lbox_7 xs [.dk a b c, .d (prD p q), .d (.int m), .d (.int v), c4, c5, c6, c7, c8] E u := by
  refine for_inv (fun _ δ => ∃ c4 c5 c6 c7 c8, δ = [.dk a b c, .d (prD p q), .d (.int m), .d (.int v), c4, c5, c6, c7, c8]) (fun _ => False) (fun x δ => ∃ ns c4 c5 c7 c8, x = tI ns ∧ Mid (2 ^ 62) p ns ∧ vol ns ≤ v ∧ δ = [.dk a b c, .d (prD p q), .d (.int m), .d (.int v), c4, c5, .d (tI ns), c7, c8]) ⟨_, _, _, _, _, rfl⟩ ?_ (fun _ h => h.elim) ?_ ?_
  · rintro δ ⟨c4, c5, c6, c7, c8, rfl⟩
    exact k1 _ _ _ _ _
  · rintro x δ ⟨ns, c4, c5, c7, c8, rfl, hm, hv, rfl⟩
    exact k0 ns hm hv _ _ _ _
  · rintro x xs δ ⟨c4, c5, c6, c7, c8, rfl⟩ K B T hK _ hT
    have l0 := h.l0
    have l1 := h.l1
    simp -implicitDefEqProofs -dsimp [w_Lbox_7]
    refine ask_draw (by omega) (by omega) fun way w0 w1 => ?_
    (try simp -implicitDefEqProofs -dsimp)
    refine ask_of ⟨a, b, c, _, m, rfl, by omega, by omega, m0, by omega, fun ns hl hn => ?_⟩
    have ns0 : Mid (2 ^ 62) p ns := ⟨by omega, fun x hx => by have := hn x hx; omega⟩
    have last : ∀ ns, Mid (2 ^ 62) p ns → ∀ c7 c8, w_Lbox_t1 { nx := K, rt := T, bk := B, ct := K } [.dk a b c, .d (prD p q), .d (.int m), .d (.int v), .d x, .d (.int way), .d (tI ns), c7, c8] := fun ns hn c7 c8 =>
      rd_Lbox_t1 hn (fun hv => hT _ _ ⟨ns, _, _, _, _, rfl, hn, hv, rfl⟩) (hK _ ⟨_, _, _, _, _, rfl⟩)
    (try simp -implicitDefEqProofs -dsimp)
    split
    · rename_i e
      have e : way = 0 := by omega
      subst e
      simp -implicitDefEqProofs -dsimp [w_Lbox_5]
      refine ask_of ⟨a, b, c, p, q, 3, rfl, h, by omega, by omega, fun n1 h1 => ?_⟩
      have m1 := cut_mid h hp hq h1
      simp -implicitDefEqProofs -dsimp [w_Lbox_t3, w_Lbox_t2]
      exact last n1 ⟨m1.1, fun x hx => by have := m1.2 x hx; omega⟩ _ _
    simp -implicitDefEqProofs -dsimp [w_Lbox_t3]
    split
    · rename_i e
      have e : way = 1 := by omega
      subst e
      simp -implicitDefEqProofs -dsimp [w_Lbox_3]
      refine ask_of ⟨a, b, c, p, q, 3, rfl, h, by omega, by omega, fun n1 h1 => ?_⟩
      have m1 : Mid (2 ^ 50) p n1 := by
        rcases h1 with h1 | h1
        · exact plain_mid rfl h.p hp h1
        · exact plain_mid h.l h.q hq h1
      simp -implicitDefEqProofs -dsimp [w_Lbox_t2]
      exact last n1 ⟨m1.1, fun x hx => by have := m1.2 x hx; omega⟩ _ _
    simp -implicitDefEqProofs -dsimp [w_Lbox_t2]
    split
    · exact rd_Lbox_1 h hp hq ns0 fun ns' hn' c7 c8 => last ns' hn' c7 c8
    · exact last ns ns0 _ _
theorem vol_ones : ∀ n : Nat, vol (List.replicate n 1) = 1
  | 0 => rfl
  | n + 1 => by rw [List.replicate_succ, vol_cons, vol_ones n]; rfl
theorem rep_one (n : Nat) : (List.replicate n [PyData.int 1]).flatten = lI (List.replicate n 1) := by
  induction n with
  | zero => rfl
  | succ n ih => simp [List.replicate_succ]
theorem rd_Lbox : ∀ cs R, sp_Lbox cs R → w_Lbox (endsOf cs R) (start0 9 cs) := by
  rintro _ R ⟨a, b, c, p, q, m, v, rfl, h, hp, hq, m0, m1, v1, hR⟩
  have l0 := h.l0
  have l1 := h.l1
  simp -implicitDefEqProofs -dsimp [w_Lbox]
  refine rd_Lbox_for h hp hq m0 m1 (fun ns hn hv c4 c5 c7 c8 => ?_) (fun c4 c5 c6 c7 c8 => ?_)
  · (try simp -implicitDefEqProofs -dsimp)
    exact hR ns hn.1 (vol_in (fun x hx => (hn.2 x hx).1) hv) hv
  · simp -implicitDefEqProofs -dsimp [w_Lbox_t4, rep_one]
    refine ⟨by omega, ?_⟩
    have := hR (List.replicate p.length 1) (by simp) (fun x hx => by rw [List.eq_of_mem_replicate hx]; omega) (by rw [vol_ones]; exact v1)
    simpa [tI, lI] using this
end TW
set_option Elab.async false
set_option linter.all false
set_option maxRecDepth 100000
set_option maxHeartbeats 4000000
namespace TW
open PySem PySem.Spec PyProof.Rows L2 DL
theorem rests_nil {a bx : List Int} : restsF a bx = [] ↔ ∀ i, i < bx.length → gi a i ∣ gi bx i := by
  rw [List.eq_nil_iff_forall_not_mem]
  constructor
  · intro h i hi
    have := h i
    rw [mem_rests] at this
    by_cases c : gi bx i % gi a i = 0
    · exact Int.dvd_of_emod_eq_zero c
    · exact absurd ⟨hi, c⟩ this
  · intro h i hm
    rw [mem_rests] at hm
    exact hm.2 (Int.emod_eq_zero_of_dvd (h i hm.1))
/-- one brick divides all, or both divide all but one side, which is a sum -/
def Fill (a b bx : List Int) : Prop := (∀ i, i < bx.length → gi a i ∣ gi bx i) ∨ (∀ i, i < bx.length → gi b i ∣ gi bx i) ∨
  ∃ ax, ax < bx.length ∧ (∀ i, i < bx.length → i ≠ ax → gi a i ∣ gi bx i ∧ gi b i ∣ gi bx i) ∧ isSum (gi a ax) (gi b ax) (gi bx ax) = true
theorem nodup_sing {l : List Nat} {ax : Nat} (hn : l.Nodup) (h0 : l ≠ []) (h : ∀ i ∈ l, i = ax) : l = [ax] := by
  cases l with
  | nil => exact absurd rfl h0
  | cons x l =>
    have hx := h x (List.mem_cons_self ..)
    subst hx
    cases l with
    | nil => rfl
    | cons y l =>
      have := h y (by simp)
      subst this
      simp at hn
theorem fillB_iff {a b bx : List Int} : fillB a b bx = true ↔ Fill a b bx := by
  unfold fillB Fill
  rw [← rests_nil, ← rests_nil]
  simp only [Bool.or_eq_true, Bool.and_eq_true, decide_eq_true_eq, List.isEmpty_iff]
  constructor
  · rintro ((h | h) | ⟨⟨h1, h2⟩, h3⟩)
    · exact .inl h
    · exact .inr (.inl h)
    · obtain ⟨ax, hax⟩ := List.length_eq_one_iff.mp h2
      rw [hax] at h3
      have hm := mem_rests.mp (show ax ∈ restsF a bx by rw [hax]; simp)
      refine .inr (.inr ⟨ax, hm.1, fun i hi hne => ?_, h3⟩)
      have n1 : i ∉ restsF a bx := by rw [hax]; simpa using hne
      have n2 : i ∉ restsF b bx := by rw [← h1]; exact n1
      rw [mem_rests] at n1 n2
      exact ⟨Int.dvd_of_emod_eq_zero (Classical.byContradiction fun c => n1 ⟨hi, c⟩), Int.dvd_of_emod_eq_zero (Classical.byContradiction fun c => n2 ⟨hi, c⟩)⟩
  · rintro (h | h | ⟨ax, hax, h1, h2⟩)
    · exact .inl (.inl h)
    · exact .inl (.inr h)
    · by_cases ea : restsF a bx = []
      · exact .inl (.inl ea)
      by_cases eb : restsF b bx = []
      · exact .inl (.inr eb)
      have q1 := nodup_sing (rests_nodup a bx) ea fun i hi => Classical.byContradiction fun c => (mem_rests.mp hi).2 (Int.emod_eq_zero_of_dvd (h1 i (mem_rests.mp hi).1 c).1)
      have q2 := nodup_sing (rests_nodup b bx) eb fun i hi => Classical.byContradiction fun c => (mem_rests.mp hi).2 (Int.emod_eq_zero_of_dvd (h1 i (mem_rests.mp hi).1 c).2)
      exact .inr ⟨⟨by rw [q1, q2], by rw [q1]; rfl⟩, by rw [q1]; exact h2⟩
end TW
set_option Elab.async false
set_option linter.all false
set_option maxRecDepth 100000
set_option maxHeartbeats 4000000
namespace TW
open PySem PySem.Spec PyProof.Rows L2 DL
def cellsStep (found : List (List Int)) (side : Int) : List (List Int) := found.flatMap fun cell => (List.range side.toNat).map fun (k : Nat) => cell ++ [(k : Int)]
/-- all cells of a box, in order -/
def cellsF (ns : List Int) : List (List Int) := ns.foldl cellsStep [[]]
abbrev lT (cs : List (List Int)) : List PyData := cs.map fun c => tI c
/-- no list that is made on the way is too long -/
def CellsOk (ns : List Int) : Prop := (∀ x ∈ ns, 0 ≤ x) ∧ ∀ k, k ≤ ns.length → vol (ns.take k) ≤ 1000000
end TW
set_option Elab.async false
set_option linter.all false
set_option maxRecDepth 100000
set_option maxHeartbeats 4000000
namespace TW
open PySem PySem.Spec PyProof.Rows L2 DL
theorem cells_app (ns : List Int) (s : Int) : cellsF (ns ++ [s]) = cellsStep (cellsF ns) s := by unfold cellsF; rw [List.foldl_append]; rfl
theorem vol_pre {as bs : List Int} (h : ∀ x ∈ as ++ bs, 1 ≤ x) : vol as ≤ vol (as ++ bs) := by
  have e : vol (as ++ bs) = vol as * vol bs := by
    induction as with
    | nil => rw [List.nil_append]; show _ = 1 * _; omega
    | cons a as ih =>
      rw [List.cons_append, vol_cons, vol_cons, ih fun x hx => h x (by simp at hx ⊢; exact .inr hx), Int.mul_assoc]
  rw [e]
  have a1 := vol_pos (ns := as) fun x hx => h x (by simp [hx])
  have b1 := vol_pos (ns := bs) fun x hx => h x (by simp [hx])
  have := Int.mul_le_mul_of_nonneg_left b1 (show 0 ≤ vol as by omega)
  omega
theorem cells_lens : ∀ (n : Nat) (ns : List Int), ns.length = n → ∀ c ∈ cellsF ns, c.length = n
  | 0, ns, hl, c, hc => by rw [List.length_eq_zero_iff.mp hl] at hc; simp [cellsF] at hc; rw [hc]; rfl
  | n + 1, ns, hl, c, hc => by
    obtain ⟨ms, s, rfl⟩ : ∃ ms s, ns = ms ++ [s] := ⟨ns.dropLast, ns.getLast (by intro e; rw [e] at hl; cases hl), (List.dropLast_concat_getLast _).symm⟩
    rw [cells_app] at hc
    unfold cellsStep at hc
    rw [List.mem_flatMap] at hc
    obtain ⟨d, hd, hc⟩ := hc
    rw [List.mem_map] at hc
    obtain ⟨k, _, rfl⟩ := hc
    rw [List.length_append, cells_lens n ms (by simpa using hl) d hd]; rfl
/-- which cells they are -/
theorem mem_cells : ∀ (n : Nat) (ns : List Int), ns.length = n → ∀ c : List Int, c ∈ cellsF ns ↔ c.length = n ∧ ∀ i, i < n → 0 ≤ gi c i ∧ gi c i < gi ns i
  | 0, ns, hl, c => by
    rw [List.length_eq_zero_iff.mp hl]
    simp [cellsF]
  | n + 1, ns, hl, c => by
    obtain ⟨ms, s, rfl⟩ : ∃ ms s, ns = ms ++ [s] := ⟨ns.dropLast, ns.getLast (by intro e; rw [e] at hl; cases hl), (List.dropLast_concat_getLast _).symm⟩
    have hm : ms.length = n := by simpa using hl
    rw [cells_app]
    unfold cellsStep
    simp only [List.mem_flatMap, List.mem_map, List.mem_range]
    have gl : ∀ {as : List Int} {x : Int} {i : Nat}, i < as.length → gi (as ++ [x]) i = gi as i := fun h => by unfold gi; rw [List.getElem?_append_left h]
    have ge : ∀ {as : List Int} {x : Int} {i : Nat}, i = as.length → gi (as ++ [x]) i = x := fun h => by subst h; unfold gi; simp
    constructor
    · rintro ⟨d, hd, k, hk, rfl⟩
      obtain ⟨h1, h2⟩ := (mem_cells n ms hm d).mp hd
      refine ⟨by simp [h1], fun i hi => ?_⟩
      by_cases q : i < n
      · rw [gl (by omega), gl (by omega)]; exact h2 i q
      · rw [ge (by omega), ge (by omega)]; omega
    · rintro ⟨h1, h2⟩
      obtain ⟨d, x, rfl⟩ : ∃ d x, c = d ++ [x] := ⟨c.dropLast, c.getLast (by intro e; rw [e] at h1; cases h1), (List.dropLast_concat_getLast _).symm⟩
      have hd : d.length = n := by simpa using h1
      have hx := h2 n (by omega)
      rw [ge (by omega), ge (by omega)] at hx
      refine ⟨d, (mem_cells n ms hm d).mpr ⟨hd, fun i hi => ?_⟩, x.toNat, by omega, by rw [Int.toNat_of_nonneg hx.1]⟩
      have := h2 i (by omega)
      rwa [gl (by omega), gl (by omega)] at this
theorem CellsOk.of {ns : List Int} (h1 : ∀ x ∈ ns, 1 ≤ x) (h2 : vol ns ≤ 1000000) : CellsOk ns := ⟨fun x hx => by have := h1 x hx; omega, fun k _ => by
  have := vol_pre (as := ns.take k) (bs := ns.drop k) fun x hx => h1 x (by rwa [List.take_append_drop] at hx)
  rw [List.take_append_drop] at this
  omega⟩
end TW
set_option Elab.async false
set_option linter.all false
set_option maxRecDepth 100000
set_option maxHeartbeats 4000000
namespace TW
open PySem PySem.Spec PyProof.Rows L2 DL

def cellsR : List Int → List (List Int)
  | [] => [[]]
  | s :: ss => (List.range s.toNat).flatMap fun k => (cellsR ss).map (((k : Nat) : Int) :: ·)
theorem cells_fold : ∀ (ss : List Int) (L : List (List Int)), ss.foldl cellsStep L = L.flatMap fun c => (cellsR ss).map (c ++ ·)
  | [], L => by
    show L = L.flatMap fun c => [c ++ []]
    induction L with
    | nil => rfl
    | cons x L ih => rw [List.flatMap_cons, ← ih, List.append_nil]; rfl
  | s :: ss, L => by
    rw [List.foldl_cons, cells_fold ss]
    unfold cellsStep
    rw [List.flatMap_assoc]
    congr 1
    funext c
    rw [List.flatMap_map, cellsR, List.map_flatMap]
    congr 1
    funext k
    rw [List.map_map]
    congr 1
    funext d
    simp
theorem cells_eq (ss : List Int) : cellsF ss = cellsR ss := by
  unfold cellsF
  rw [cells_fold]
  simp
/-- the order of cells -/
def lx : List Int → List Int → Prop
  | x :: xs, y :: ys => x < y ∨ (x = y ∧ lx xs ys)
  | _, _ => False
theorem cells_sorted : ∀ ss : List Int, (cellsR ss).Pairwise lx
  | [] => by simp [cellsR]
  | s :: ss => by
    rw [cellsR, List.pairwise_flatMap]
    refine ⟨fun k _ => ?_, ?_⟩
    · rw [List.pairwise_map]
      exact (cells_sorted ss).imp fun {a b} h => .inr ⟨rfl, h⟩
    · refine List.pairwise_lt_range.imp fun {k l} h x hx y hy => ?_
      obtain ⟨x, _, rfl⟩ := List.mem_map.mp hx
      obtain ⟨y, _, rfl⟩ := List.mem_map.mp hy
      exact .inl (by omega)
theorem lx_ge : ∀ {x y : List Int}, lx x y → x.length = y.length → (∀ i, i < x.length → gi y i ≤ gi x i) → False
  | [], _, h, _, _ => by simp [lx] at h
  | _ :: _, [], h, _, _ => by simp [lx] at h
  | x :: xs, y :: ys, h, hl, hg => by
    have h0 : y ≤ x := hg 0 (by simp)
    rcases h with h | ⟨rfl, h⟩
    · omega
    · exact lx_ge h (by simpa using hl) fun i hi => hg (i + 1) (by simp; omega)
theorem gi_extL : ∀ {x y : List Int}, x.length = y.length → (∀ i, i < x.length → gi x i = gi y i) → x = y
  | [], [], _, _ => rfl
  | [], _ :: _, h, _ => by simp at h
  | _ :: _, [], h, _ => by simp at h
  | x :: xs, y :: ys, hl, h => by
    have h0 : x = y := h 0 (by simp)
    have := gi_extL (x := xs) (y := ys) (by simpa using hl) fun i hi => h (i + 1) (by simp; omega)
    rw [h0, this]
theorem cells_nodup (ss : List Int) : (cellsF ss).Nodup := by
  rw [cells_eq]
  refine (cells_sorted ss).imp fun {a b} h e => ?_
  subst e
  exact lx_ge h rfl fun i _ => Int.le_refl _
def movF (x c : List Int) : List Int := List.zipWith (· + ·) x c
def covF (b c : List Int) : List (List Int) := (cellsF b).map fun x => movF x c
theorem gi_mov {x c : List Int} {i : Nat} (h : i < x.length) (h' : i < c.length) : gi (movF x c) i = gi x i + gi c i := by
  unfold gi movF
  rw [List.getElem?_zipWith, List.getElem?_eq_getElem h, List.getElem?_eq_getElem h']
  rfl
theorem mov_len {x c : List Int} (h : x.length = c.length) : (movF x c).length = c.length := by unfold movF; simp [h]
theorem mem_cov {b c d : List Int} (h : c.length = b.length) : d ∈ covF b c ↔ d.length = b.length ∧ ∀ i, i < b.length → gi c i ≤ gi d i ∧ gi d i < gi c i + gi b i := by
  unfold covF
  rw [List.mem_map]
  constructor
  · rintro ⟨x, hx, rfl⟩
    obtain ⟨h1, h2⟩ := (mem_cells b.length b rfl x).mp hx
    refine ⟨by rw [mov_len (by omega)]; exact h, fun i hi => ?_⟩
    have := h2 i hi
    rw [gi_mov (by omega) (by omega)]
    omega
  · rintro ⟨h1, h2⟩
    refine ⟨List.zipWith (· - ·) d c, (mem_cells b.length b rfl _).mpr ⟨by simp; omega, fun i hi => ?_⟩, ?_⟩
    · have := h2 i hi
      have e : gi (List.zipWith (· - ·) d c) i = gi d i - gi c i := by
        unfold gi
        rw [List.getElem?_zipWith, List.getElem?_eq_getElem (show i < d.length by omega), List.getElem?_eq_getElem (show i < c.length by omega)]
        rfl
      omega
    · refine gi_extL (by rw [mov_len (by simp; omega)]; omega) fun i hi => ?_
      rw [mov_len (by simp; omega)] at hi
      rw [gi_mov (by simp; omega) hi]
      have e : gi (List.zipWith (· - ·) d c) i = gi d i - gi c i := by
        unfold gi
        rw [List.getElem?_zipWith, List.getElem?_eq_getElem (show i < d.length by omega), List.getElem?_eq_getElem (show i < c.length by omega)]
        rfl
      omega
/-- a brick lies in a box -/
def Fits (b bx c : List Int) : Prop := c.length = bx.length ∧ ∀ i, i < bx.length → 0 ≤ gi c i ∧ gi c i + gi b i ≤ gi bx i
abbrev BrL : Type := List Int × List Int
structure LayW (ks : List (List Int)) (bx : List Int) (known : List (List Int)) (bs : List BrL) : Prop where
  fit : ∀ x ∈ bs, x.1 ∈ ks ∧ Fits x.1 bx x.2
  dis : bs.Pairwise fun x y => ∀ d, d ∈ covF x.1 x.2 → d ∉ covF y.1 y.2
  new : ∀ x ∈ bs, ∀ d ∈ covF x.1 x.2, d ∉ known
  all : ∀ d ∈ cellsF bx, d ∈ known ∨ ∃ x ∈ bs, d ∈ covF x.1 x.2
/-- kinds for a box -/
def Kin (ks : List (List Int)) (bx : List Int) : Prop := ∀ b ∈ ks, b.length = bx.length ∧ ∀ x ∈ b, 1 ≤ x
theorem fits_in {b bx c d : List Int} (hl : b.length = bx.length) (h : Fits b bx c) (hd : d ∈ covF b c) : d ∈ cellsF bx := by
  obtain ⟨h1, h2⟩ := (mem_cov (by have := h.1; omega)).mp hd
  exact (mem_cells bx.length bx rfl d).mpr ⟨by omega, fun i hi => by have := h2 i (by omega); have := h.2 i hi; omega⟩
theorem corner_in {b c : List Int} (hc : c.length = b.length) (h : ∀ x ∈ b, 1 ≤ x) : c ∈ covF b c := (mem_cov hc).mpr ⟨hc, fun i hi => by
  have := h _ (gi_mem hi)
  omega⟩
def sm (l : List Int) : Int := l.foldr (· + ·) 0
theorem floor_bd (x : Int) {b : Int} (hb : 1 ≤ b) : x / b * b ≤ x ∧ x < x / b * b + b := by
  have h1 := Int.mul_ediv_add_emod x b
  rw [Int.mul_comm] at h1
  have h2 := Int.emod_nonneg x (show b ≠ 0 by omega)
  have h3 := Int.emod_lt_of_pos x (show 0 < b by omega)
  omega
theorem floor_eq {x c b : Int} (hb : 1 ≤ b) (h0 : c / b * b = c) (h1 : c ≤ x) (h2 : x < c + b) : x / b * b = c := by
  have e : x / b = c / b := by
    have : x = (x - c) + b * (c / b) := by rw [Int.mul_comm]; omega
    rw [this, Int.add_mul_ediv_left _ _ (show b ≠ 0 by omega), Int.ediv_eq_zero_of_lt (by omega) (by omega)]
    omega
  rw [e, h0]
section
variable (p q : List Int) (ax : Nat) (z : Int)
def lowB (d : List Int) : Prop := gi d ax < z
instance (d : List Int) : Decidable (lowB ax z d) := by unfold lowB; infer_instance
end
end TW
set_option Elab.async false
set_option linter.all false
set_option maxRecDepth 100000
set_option maxHeartbeats 4000000
namespace TW
open PySem PySem.Spec PyProof.Rows L2 DL
@[simp] theorem endsM_nx (i : Nat) (cs : List Cell) (R : Cell → List Cell → Prop) (δ : DS) : (endsM i cs R).nx δ = (sameIo cs δ ∧ cs.length ≤ i ∧ ∃ a xs, δ[i]? = some (.ol a xs) ∧ R (.ol a xs) (outC cs δ)) := rfl
end TW
set_option Elab.async false
set_option linter.all false
set_option maxRecDepth 100000
set_option maxHeartbeats 4000000
namespace TW
open PySem PySem.Spec PyProof.Rows L2 DL
end TW
set_option Elab.async false
set_option linter.all false
set_option maxRecDepth 100000
set_option maxHeartbeats 4000000
namespace TW
open PySem PySem.Spec PyProof.Rows L2 DL
end TW
set_option Elab.async false
set_option linter.all false
set_option maxRecDepth 100000
set_option maxHeartbeats 4000000
namespace TW
open PySem PySem.Spec PyProof.Rows L2 DL
def sp_Lwith : DSp := fun cs R => ∃ (ds : List PyData) (i : Nat) (d : PyData), cs = [.d (.tuple ds), .d (.int (i : Int)), .d d] ∧ i < ds.length ∧ ds.length ≤ 100000 ∧ R (.tuple (ds.set i d)) cs
def w_Lwith : DTS := (wRet (wOp pAddB (wOp pAddB (wSl pSl (wVar 0) wNoP (wPart (wVar 1))) (wTup (wCons (wVar 2) wNil))) (wSl pSl (wVar 0) (wPart (wOp pAddB (wVar 1) (wC (.int 1)))) wNoP)))
theorem ln_Lwith : ∀ cs R, sp_Lwith cs R → cs.length = 3 := by
  intro cs R h
  unfold sp_Lwith at h
  repeat (obtain ⟨_, h⟩ := h)
  subst_vars; rfl
end TW
set_option Elab.async false
set_option linter.all false
set_option maxRecDepth 100000
set_option maxHeartbeats 4000000
namespace TW
open PySem PySem.Spec PyProof.Rows L2 DL
theorem rd_Lwith : ∀ cs R, sp_Lwith cs R → w_Lwith (endsOf cs R) (start0 3 cs) := by
  rintro _ R ⟨ds, i, d, rfl, hi, hl, hR⟩
  have e := cut_put (y := d) hi
  rw [List.append_assoc, List.singleton_append] at e
  simp -implicitDefEqProofs -dsimp [w_Lwith, e]
  have l1 : (DL.cutD ds none (some (i : Int))).length ≤ 100000 := by rw [cutD_take]; simp; omega
  have l2 : (DL.cutD ds (some ((i : Int) + 1)) none).length ≤ 100000 := by rw [cutD_drop1]; simp; omega
  exact ⟨by omega, by omega, hR⟩
end TW
set_option Elab.async false
set_option linter.all false
set_option maxRecDepth 100000
set_option maxHeartbeats 4000000
namespace TW
open PySem PySem.Spec PyProof.Rows L2 DL
def wholeB (lo hi : Int) : PyData → Bool
  | .int i => decide (lo ≤ i) && decide (i ≤ hi)
  | _ => false
def sp_is_integer : DSp := fun cs R => ∃ d lo hi, cs = [.d d, .d (.int lo), .d (.int hi)] ∧ R (.bool (wholeB lo hi d)) [.d d, .d (.int lo), .d (.int hi)]
def w_is_integer : DTS := (wRet (wAndV (wIsi "int" (wVar 0)) (wAndV (wNotV (wIsi "bool" (wVar 0))) (wChain pLe pLe (wVar 1) (wVar 0) (wVar 2)))))
theorem ln_is_integer : ∀ cs R, sp_is_integer cs R → cs.length = 3 := by
  intro cs R h
  unfold sp_is_integer at h
  repeat (obtain ⟨_, h⟩ := h)
  subst_vars; rfl
end TW
set_option Elab.async false
set_option linter.all false
set_option maxRecDepth 100000
set_option maxHeartbeats 4000000
namespace TW
open PySem PySem.Spec PyProof.Rows L2 DL
@[simp] theorem isTy_int_i (i : Int) : isTy "int" (.int i) = true := by rw [isTy, tyName]; decide
@[simp] theorem isTy_int_b (i : Bool) : isTy "int" (.bool i) = true := by rw [isTy, tyName]; decide
@[simp] theorem isTy_int_n : isTy "int" .none = false := by rw [isTy, tyName]; decide
@[simp] theorem isTy_int_s (i : Str) : isTy "int" (.str i) = false := by rw [isTy, tyName]; decide
@[simp] theorem isTy_int_l (i : List PyData) : isTy "int" (.list i) = false := by rw [isTy, tyName]; decide
@[simp] theorem isTy_int_t (i : List PyData) : isTy "int" (.tuple i) = false := by rw [isTy, tyName]; decide
@[simp] theorem isTy_int_d (i : List (PyData × PyData)) : isTy "int" (.dict i) = false := by cases i <;> (rw [isTy, tyName]; decide)
@[simp] theorem isTy_bool_i (i : Int) : isTy "bool" (.int i) = false := by rw [isTy, tyName]; decide
@[simp] theorem isTy_bool_b (i : Bool) : isTy "bool" (.bool i) = true := by rw [isTy, tyName]; decide
@[simp] theorem isTy_bool_n : isTy "bool" .none = false := by rw [isTy, tyName]; decide
@[simp] theorem isTy_bool_s (i : Str) : isTy "bool" (.str i) = false := by rw [isTy, tyName]; decide
@[simp] theorem isTy_bool_l (i : List PyData) : isTy "bool" (.list i) = false := by rw [isTy, tyName]; decide
@[simp] theorem isTy_bool_t (i : List PyData) : isTy "bool" (.tuple i) = false := by rw [isTy, tyName]; decide
@[simp] theorem isTy_bool_d (i : List (PyData × PyData)) : isTy "bool" (.dict i) = false := by cases i <;> (rw [isTy, tyName]; decide)
@[simp] theorem isTy_tuple_i (i : Int) : isTy "tuple" (.int i) = false := by rw [isTy, tyName]; decide
@[simp] theorem isTy_tuple_b (i : Bool) : isTy "tuple" (.bool i) = false := by rw [isTy, tyName]; decide
@[simp] theorem isTy_tuple_n : isTy "tuple" .none = false := by rw [isTy, tyName]; decide
@[simp] theorem isTy_tuple_s (i : Str) : isTy "tuple" (.str i) = false := by rw [isTy, tyName]; decide
@[simp] theorem isTy_tuple_l (i : List PyData) : isTy "tuple" (.list i) = false := by rw [isTy, tyName]; decide
@[simp] theorem isTy_tuple_t (i : List PyData) : isTy "tuple" (.tuple i) = true := by rw [isTy, tyName]; decide
@[simp] theorem isTy_tuple_d (i : List (PyData × PyData)) : isTy "tuple" (.dict i) = false := by cases i <;> (rw [isTy, tyName]; decide)
@[simp] theorem isTy_str_i (i : Int) : isTy "str" (.int i) = false := by rw [isTy, tyName]; decide
@[simp] theorem isTy_str_b (i : Bool) : isTy "str" (.bool i) = false := by rw [isTy, tyName]; decide
@[simp] theorem isTy_str_n : isTy "str" .none = false := by rw [isTy, tyName]; decide
@[simp] theorem isTy_str_s (i : Str) : isTy "str" (.str i) = true := by rw [isTy, tyName]; decide
@[simp] theorem isTy_str_l (i : List PyData) : isTy "str" (.list i) = false := by rw [isTy, tyName]; decide
@[simp] theorem isTy_str_t (i : List PyData) : isTy "str" (.tuple i) = false := by rw [isTy, tyName]; decide
@[simp] theorem isTy_str_d (i : List (PyData × PyData)) : isTy "str" (.dict i) = false := by cases i <;> (rw [isTy, tyName]; decide)
theorem rd_is_integer : ∀ cs R, sp_is_integer cs R → w_is_integer (endsOf cs R) (start0 3 cs) := by
  rintro _ R ⟨d, lo, hi, rfl, hR⟩
  cases d with
  | int i =>
    simp -implicitDefEqProofs -dsimp [w_is_integer]
    have hR : R (.bool (decide (lo ≤ i) && decide (i ≤ hi))) [.d (.int i), .d (.int lo), .d (.int hi)] := hR
    by_cases h : lo ≤ i
    · rw [if_pos h]
      simpa [h] using hR
    · rw [if_neg h]
      simpa [h] using hR
  | bool b => simp -implicitDefEqProofs -dsimp [w_is_integer]; exact hR
  | none => simp -implicitDefEqProofs -dsimp [w_is_integer]; exact hR
  | str z => simp -implicitDefEqProofs -dsimp [w_is_integer]; exact hR
  | list z => simp -implicitDefEqProofs -dsimp [w_is_integer]; exact hR
  | tuple z => simp -implicitDefEqProofs -dsimp [w_is_integer]; exact hR
  | dict z => simp -implicitDefEqProofs -dsimp [w_is_integer]; exact hR
end TW
set_option Elab.async false
set_option linter.all false
set_option maxRecDepth 100000
set_option maxHeartbeats 4000000
namespace TW
open PySem PySem.Spec PyProof.Rows L2 DL
end TW
set_option Elab.async false
set_option linter.all false
set_option maxRecDepth 100000
set_option maxHeartbeats 4000000
namespace TW
open PySem PySem.Spec PyProof.Rows L2 DL
theorem PB.swap {a b bx : List Int} (h : PB a b bx) : PB b a bx := ⟨h.lb, h.la, h.l0, h.l1, h.pb, h.pa, h.px⟩
section
variable {a b bx : List Int} {E : DEnds} {w : Str} {ns : List Int}
/-- where an answer is given, with whatever else stands in the slots -/
def Ans (E : DEnds) (a b bx : List Int) (w : Str) (ns : List Int) (P : Prop) : Prop := ∀ c : Bool, (c = true ↔ P) → ∀ c3 c4 c5 c6 c7, E.rt (.bool c) [.d (prD a b), .d (tI bx), .d (.tuple (.str w :: lI ns)), c3, c4, c5, c6, c7]
theorem Ans.no {P : Prop} (h : Ans E a b bx w ns P) (q : ¬ P) : ∀ c3 c4 c5 c6 c7, E.rt (.bool false) [.d (prD a b), .d (tI bx), .d (.tuple (.str w :: lI ns)), c3, c4, c5, c6, c7] := h false (by simpa using q)
theorem Ans.of {P Q : Prop} (h : Ans E a b bx w ns P) (q : Q ↔ P) : Ans E a b bx w ns Q := fun c hc => h c (hc.trans q)
theorem shaped_int (i : Int) : SeqAt.shaped (.int i) = true := by simp [SeqAt.shaped, PyData.canLay0, PyData.depth]
end
end TW
set_option Elab.async false
set_option linter.all false
set_option maxRecDepth 100000
set_option maxHeartbeats 4000000
namespace TW
open PySem PySem.Spec PyProof.Rows L2 DL
inductive Row where
  | one (k : Nat)
  | two (ax i j : Nat)
def Row.d : Row → PyData
  | .one k => .tuple [.int (k : Int)]
  | .two ax i j => .tuple [.int (ax : Int), .int (i : Int), .int (j : Int)]
abbrev ksD (ks : List (List Int)) : PyData := .tuple (lT ks)
/-- kinds of n axes -/
structure Kd (n : Nat) (ks : List (List Int)) : Prop where
  l0 : 0 < ks.length
  l1 : ks.length ≤ 4
  n0 : 0 < n
  n1 : n ≤ 4
  len : ∀ k ∈ ks, k.length = n
  side : ∀ k ∈ ks, In (10 ^ 12) k
/-- boxes made so far -/
structure Bs (n : Nat) (bs : List (List Int)) : Prop where
  len : ∀ k ∈ bs, k.length = n
  side : ∀ k ∈ bs, In (10 ^ 400) k
def bxOf (bs : List (List Int)) (i : Nat) : List Int := bs.getD i []
def putF (one other : List Int) (ax : Nat) : List Int := one.set ax (gi one ax + gi other ax)
def agreeB (one other : List Int) (ax : Nat) : Bool := (List.range one.length).all fun k => decide (k = ax) || decide (gi one k = gi other k)
def boxR (ks bs : List (List Int)) : Row → List Int
  | .one k => bxOf ks k
  | .two ax i j => putF (bxOf bs i) (bxOf bs j) ax
def rowB (kn n idx : Nat) : PyData → Bool
  | .tuple [a] => wholeB 0 ((kn : Int) - 1) a
  | .tuple [a, b, c] => wholeB 0 ((n : Int) - 1) a && wholeB 0 ((idx : Int) - 1) b && wholeB 0 ((idx : Int) - 1) c
  | _ => false
def rowOf : PyData → Row
  | .tuple [.int k] => .one k.toNat
  | .tuple [.int a, .int i, .int j] => .two a.toNat i.toNat j.toNat
  | _ => .one 0
def wordR (bs : List (List Int)) : Row → Option Str
  | .one _ => none
  | .two ax i j => if agreeB (bxOf bs i) (bxOf bs j) ax = false then some "sides" else if gi (bxOf bs i) ax + gi (bxOf bs j) ax > 10 ^ 12 then some "great" else none
def errR (kn n : Nat) (bs : List (List Int)) (v : PyData) : Option Str := if rowB kn n bs.length v = false then some "row" else wordR bs (rowOf v)
def planE (ks : List (List Int)) (n : Nat) : List (List Int) → List PyData → Option (Nat × Str)
  | _, [] => none
  | bs, v :: vs => match errR ks.length n bs v with
    | some w => some (bs.length, w)
    | none => planE ks n (bs ++ [boxR ks bs (rowOf v)]) vs
def encP : Option (Nat × Str) → PyData
  | none => .none
  | some (i, w) => .tuple [.int (i : Int), .str w]
def planA (ks : List (List Int)) (n : Nat) : PyData → PyData
  | .tuple rs => if 1 ≤ rs.length ∧ rs.length ≤ 1000 then encP (planE ks n [] rs) else .tuple [.none, .str "plan"]
  | _ => .tuple [.none, .str "plan"]
def sp_is_row : DSp := fun cs R => ∃ n ks v, ∃ idx : Nat, cs = [.d (ksD ks), .d v, .d (.int (idx : Int))] ∧ Kd n ks ∧ R (.bool (rowB ks.length n idx v)) cs
def sp_Lis_row : DSp := sp_is_row
def sp_Lput : DSp := fun cs R => ∃ p q, ∃ ax : Nat, cs = [.d (tI p), .d (tI q), .d (.int (ax : Int))] ∧ ax < p.length ∧ q.length = p.length ∧ p.length ≤ 1000 ∧ R (if agreeB p q ax = true then tI (putF p q ax) else .none) cs
def RowIn (kn n idx : Nat) : Row → Prop
  | .one k => k < kn
  | .two ax i j => ax < n ∧ i < idx ∧ j < idx
def sp_plan_error : DSp := fun cs R => ∃ n ks v, cs = [.d (ksD ks), .d v] ∧ Kd n ks ∧ R (planA ks n v) cs
def sp_Lplan_error : DSp := sp_plan_error
def w_Lis_row_t1 : DTS := (wRet (wAndV (wCall [] sp_is_integer (wCons (wOp pIx (wVar 1) (wC (.int 1))) (wCons (wC (.int 0)) (wCons (wOp pSubB (wVar 2) (wC (.int 1))) wNil)))) (wCall [] sp_is_integer (wCons (wOp pIx (wVar 1) (wC (.int 2))) (wCons (wC (.int 0)) (wCons (wOp pSubB (wVar 2) (wC (.int 1))) wNil))))))
def w_Lis_row_2 : DTS := (wRet (wCall [] sp_is_integer (wCons (wOp pIx (wVar 1) (wC (.int 0))) (wCons (wC (.int 0)) (wCons (wOp pSubB (wFn pLen (wCons (wVar 0) wNil)) (wC (.int 1))) wNil)))))
def w_Lis_row_t2 : DTS := (wSeq (wIf (wNot (wB (wCall [] sp_is_integer (wCons (wOp pIx (wVar 1) (wC (.int 0))) (wCons (wC (.int 0)) (wCons (wOp pSubB (wFn pLen (wCons (wOp pIx (wVar 0) (wC (.int 0))) wNil)) (wC (.int 1))) wNil)))))) (wRet (wC (.bool false))) wNext) w_Lis_row_t1)
def w_Lis_row_t3 : DTS := (wSeq (wIf (wB (wOp pEq (wFn pLen (wCons (wVar 1) wNil)) (wC (.int 1)))) w_Lis_row_2 wNext) w_Lis_row_t2)
def w_Lis_row : DTS := (wSeq (wIf (wOr (wNot (wB (wIsi "tuple" (wVar 1)))) (wB (wOp pNotIn (wFn pLen (wCons (wVar 1) wNil)) (wOfL (wLst (wCons (wC (.int 1)) (wCons (wC (.int 3)) wNil))))))) (wRet (wC (.bool false))) wNext) w_Lis_row_t3)
def w_Lput_1 : DTS := (wIf (wAnd (wB (wOp pNe (wVar 3) (wVar 2))) (wB (wOp pNe (wOp pIx (wVar 0) (wVar 3)) (wOp pIx (wVar 1) (wVar 3))))) (wRet (wC .none)) wNext)
def w_Lput_t1 : DTS := (wRet (wOp pAddB (wOp pAddB (wSl pSl (wVar 0) wNoP (wPart (wVar 2))) (wTup (wCons (wOp pAddB (wOp pIx (wVar 0) (wVar 2)) (wOp pIx (wVar 1) (wVar 2))) wNil))) (wSl pSl (wVar 0) (wPart (wOp pAddB (wVar 2) (wC (.int 1)))) wNoP)))
def w_Lput : DTS := (wSeq (wFor (iRange1 (wCons (wFn pLen (wCons (wVar 0) wNil)) wNil)) (gN 3) w_Lput_1) w_Lput_t1)
def w_Lplan_error_1 : DTS := (wRet (wTup (wCons (wVar 3) (wCons (wC (.str "great")) wNil))))
def w_Lplan_error_2 : DTS := (wRet (wTup (wCons (wVar 3) (wCons (wC (.str "sides")) wNil))))
def w_Lplan_error_t1 : DTS := (wSeq (wIf (wB (wOp pGt (wFn pMaxS (wCons (wVar 5) wNil)) (wOp pPow (wC (.int 10)) (wC (.int 12))))) w_Lplan_error_1 wNext) (wAppend 2 (wVar 5)))
def w_Lplan_error_s1 : DTS := (wSeq (wIf (wB (wOp pIs (wVar 5) (wC .none))) w_Lplan_error_2 wNext) w_Lplan_error_t1)
@[simp ↓] theorem w_Lplan_error_s1_ap (E : DEnds) (δ : DS) : w_Lplan_error_s1 E δ = (wSeq (wIf (wB (wOp pIs (wVar 5) (wC .none))) w_Lplan_error_2 wNext) w_Lplan_error_t1) E δ := rfl
def w_Lplan_error_4 : DTS := (wRet (wTup (wCons (wVar 3) (wCons (wC (.str "row")) wNil))))
def w_Lplan_error_t2 : DTS := (wSeq (wSet 5 (mE (wIfE (wB (wOp pEq (wFn pLen (wCons (wVar 4) wNil)) (wC (.int 1)))) (wOp pIx (wVar 0) (wOp pIx (wVar 4) (wC (.int 0)))) (wCall [] sp_Lput (wCons (wOp pIx (wVar 2) (wOp pIx (wVar 4) (wC (.int 1)))) (wCons (wOp pIx (wVar 2) (wOp pIx (wVar 4) (wC (.int 2)))) (wCons (wOp pIx (wVar 4) (wC (.int 0))) wNil))))))) w_Lplan_error_s1)
def w_Lplan_error_s2 : DTS := (wSeq (wIf (wNot (wB (wCall [] sp_Lis_row (wCons (wVar 0) (wCons (wVar 4) (wCons (wVar 3) wNil)))))) w_Lplan_error_4 wNext) w_Lplan_error_t2)
@[simp ↓] theorem w_Lplan_error_s2_ap (E : DEnds) (δ : DS) : w_Lplan_error_s2 E δ = (wSeq (wIf (wNot (wB (wCall [] sp_Lis_row (wCons (wVar 0) (wCons (wVar 4) (wCons (wVar 3) wNil)))))) w_Lplan_error_4 wNext) w_Lplan_error_t2) E δ := rfl
def w_Lplan_error_6 : DTS := (wSeq (wSet 4 (mE (wOp pIx (wVar 1) (wVar 3)))) w_Lplan_error_s2)
def w_Lplan_error_s3 : DTS := (wSeq (wFor (iRange1 (wCons (wFn pLen (wCons (wVar 1) wNil)) wNil)) (gN 3) w_Lplan_error_6) (wRet (wC .none)))
@[simp ↓] theorem w_Lplan_error_s3_ap (E : DEnds) (δ : DS) : w_Lplan_error_s3 E δ = (wSeq (wFor (iRange1 (wCons (wFn pLen (wCons (wVar 1) wNil)) wNil)) (gN 3) w_Lplan_error_6) (wRet (wC .none))) E δ := rfl
def w_Lplan_error_7 : DTS := (wRet (wTup (wCons (wC .none) (wCons (wC (.str "plan")) wNil))))
def w_Lplan_error_t3 : DTS := (wSeq (wSet 2 (mL (wLst wNil))) w_Lplan_error_s3)
def w_Lplan_error : DTS := (wSeq (wIf (wOr (wNot (wB (wIsi "tuple" (wVar 1)))) (wNot (wB (wChain pLe pLe (wC (.int 1)) (wFn pLen (wCons (wVar 1) wNil)) (wC (.int 1000)))))) w_Lplan_error_7 wNext) w_Lplan_error_t3)
theorem ln_Lis_row : ∀ cs R, sp_Lis_row cs R → cs.length = 3 := by
  intro cs R h
  unfold sp_Lis_row at h
  repeat (obtain ⟨_, h⟩ := h)
  subst_vars; rfl
theorem ln_Lput : ∀ cs R, sp_Lput cs R → cs.length = 3 := by
  intro cs R h
  unfold sp_Lput at h
  repeat (obtain ⟨_, h⟩ := h)
  subst_vars; rfl
theorem ln_Lplan_error : ∀ cs R, sp_Lplan_error cs R → cs.length = 2 := by
  intro cs R h
  unfold sp_Lplan_error at h
  repeat (obtain ⟨_, h⟩ := h)
  subst_vars; rfl
end TW
set_option Elab.async false
set_option linter.all false
set_option maxRecDepth 100000
set_option maxHeartbeats 4000000
namespace TW
open PySem PySem.Spec PyProof.Rows L2 DL
theorem shp13l : SeqAt.shaped (.list [PyData.int 1, PyData.int 3]) = true := shaped_ints [1, 3]
theorem eqv_ii (i j : Int) : PyData.eqv (.int i) (.int j) = decide (i = j) := by simp [PyData.eqv]; rfl
theorem rowB_4 {kn n idx : Nat} {a b c d : PyData} {r : List PyData} : rowB kn n idx (.tuple (a :: b :: c :: d :: r)) = false := rfl
theorem rd_Lis_row : ∀ cs R, sp_Lis_row cs R → w_Lis_row (endsOf cs R) (start0 3 cs) := by
  rintro _ R ⟨n, ks, v, idx, rfl, h, hR⟩
  have l0 := h.l0
  have k0 : ks[0]? = some (bxOf ks 0) := by
    unfold bxOf; rw [List.getD_eq_getElem?_getD, List.getElem?_eq_getElem l0]; rfl
  have kl : (bxOf ks 0).length = n := h.len _ (by unfold bxOf; rw [List.getD_eq_getElem?_getD, List.getElem?_eq_getElem l0]; exact List.getElem_mem l0)
  cases v with
  | tuple rs =>
    match rs with
    | [] => simp -implicitDefEqProofs -dsimp [w_Lis_row, shaped_int, shp13l, eqv_ii]; exact hR
    | [a] =>
      simp -implicitDefEqProofs -dsimp [w_Lis_row, shaped_int, shp13l, eqv_ii, w_Lis_row_t3, w_Lis_row_2]
      refine ask_of (sp := sp_is_integer) ⟨a, _, _, rfl, ?_⟩
      (try simp -implicitDefEqProofs -dsimp)
      exact hR
    | [a, b] => simp -implicitDefEqProofs -dsimp [w_Lis_row, shaped_int, shp13l, eqv_ii]; exact hR
    | [a, b, c] =>
      simp -implicitDefEqProofs -dsimp [w_Lis_row, shaped_int, shp13l, eqv_ii, w_Lis_row_t3, w_Lis_row_t2, k0, kl]
      refine ask_of (sp := sp_is_integer) ⟨a, _, _, rfl, ?_⟩
      (try simp -implicitDefEqProofs -dsimp)
      have hR : R (.bool (wholeB 0 ((n : Int) - 1) a && wholeB 0 ((idx : Int) - 1) b && wholeB 0 ((idx : Int) - 1) c)) [.d (ksD ks), .d (.tuple [a, b, c]), .d (.int (idx : Int))] := hR
      cases ha : wholeB 0 ((n : Int) - 1) a with
      | false =>
        rw [ha] at hR
        (try simp -implicitDefEqProofs -dsimp)
        exact hR
      | true =>
        rw [ha] at hR
        simp -implicitDefEqProofs -dsimp [w_Lis_row_t1]
        refine ask_of (sp := sp_is_integer) ⟨b, _, _, rfl, ?_⟩
        (try simp -implicitDefEqProofs -dsimp)
        cases hb : wholeB 0 ((idx : Int) - 1) b with
        | false =>
          rw [hb] at hR
          (try simp -implicitDefEqProofs -dsimp)
          exact hR
        | true =>
          rw [hb] at hR
          (try simp -implicitDefEqProofs -dsimp)
          refine ask_of (sp := sp_is_integer) ⟨c, _, _, rfl, ?_⟩
          (try simp -implicitDefEqProofs -dsimp)
          exact hR
    | a :: b :: c :: d :: r =>
      have g : ((a :: b :: c :: d :: r).length : Int) ≥ 4 := by simp only [List.length_cons]; omega
      have g1 : ¬ (1 : Int) = ((a :: b :: c :: d :: r).length : Int) := by omega
      have g3 : ¬ (3 : Int) = ((a :: b :: c :: d :: r).length : Int) := by omega
      rw [rowB_4] at hR
      revert g1 g3 hR
      generalize (a :: b :: c :: d :: r) = rs
      intro hR g1 g3
      simp -implicitDefEqProofs -dsimp [w_Lis_row, shaped_int, shp13l, eqv_ii, g1, g3]
      exact hR
  | _ => simp -implicitDefEqProofs -dsimp [w_Lis_row]; exact hR
theorem Bs.at {n : Nat} {bs : List (List Int)} (h : Bs n bs) {i : Nat} (hi : i < bs.length) : bs[i]? = some (bxOf bs i) ∧ (bxOf bs i).length = n ∧ In (10 ^ 400) (bxOf bs i) := by
  have e : bxOf bs i = bs[i] := by unfold bxOf; rw [List.getD_eq_getElem?_getD, List.getElem?_eq_getElem hi]; rfl
  refine ⟨?_, ?_, ?_⟩
  · rw [e, List.getElem?_eq_getElem hi]
  · rw [e]; exact h.len _ (List.getElem_mem hi)
  · rw [e]; exact h.side _ (List.getElem_mem hi)
theorem Kd.at {n : Nat} {ks : List (List Int)} (h : Kd n ks) {i : Nat} (hi : i < ks.length) : ks[i]? = some (bxOf ks i) ∧ (bxOf ks i).length = n ∧ In (10 ^ 12) (bxOf ks i) := by
  have e : bxOf ks i = ks[i] := by unfold bxOf; rw [List.getD_eq_getElem?_getD, List.getElem?_eq_getElem hi]; rfl
  refine ⟨?_, ?_, ?_⟩
  · rw [e, List.getElem?_eq_getElem hi]
  · rw [e]; exact h.len _ (List.getElem_mem hi)
  · rw [e]; exact h.side _ (List.getElem_mem hi)
theorem agree_iff {p q : List Int} {ax : Nat} : agreeB p q ax = true ↔ ∀ k, k < p.length → k ≠ ax → gi p k = gi q k := by
  unfold agreeB
  rw [List.all_eq_true]
  constructor
  · intro h k hk hn
    have := h k (List.mem_range.mpr hk)
    simpa [hn] using this
  · intro h k hk
    by_cases e : k = ax
    · simp [e]
    · simp [h k (List.mem_range.mp hk) e]
theorem rd_Lput : ∀ cs R, sp_Lput cs R → w_Lput (endsOf cs R) (start0 4 cs) := by
  rintro _ R ⟨p, q, ax, rfl, hx, hl, l1, hR⟩
  have x1 : p[ax]? = some (gi p ax) := gi_at (by omega)
  have x2 : q[ax]? = some (gi q ax) := gi_at (by omega)
  simp -implicitDefEqProofs -dsimp [w_Lput]
  refine ⟨by omega, for_cntZ 0 p.length (fun i δ => ∃ c, δ = [.d (tI p), .d (tI q), .d (.int (ax : Int)), c] ∧ ∀ k, k < i → k ≠ ax → gi p k = gi q k) (fun _ => False) (fun x δ => ∃ c, δ = [.d (tI p), .d (tI q), .d (.int (ax : Int)), c] ∧ x = .none ∧ agreeB p q ax = false) ⟨_, rfl, fun k hk => by omega⟩ ?_ (fun _ h => h.elim) ?_ ?_⟩
  · rintro δ ⟨c, rfl, h⟩
    rw [if_pos (agree_iff.mpr fun k hk hn => h k hk hn)] at hR
    have e := cut_put (y := PyData.int (gi p ax + gi q ax)) (xs := lI p) (n := ax) (by simpa using hx)
    rw [List.append_assoc, List.singleton_append] at e
    have e3 : (lI p).set ax (.int (gi p ax + gi q ax)) = lI (putF p q ax) := by unfold lI putF; rw [List.map_set]
    rw [e3] at e
    simp -implicitDefEqProofs -dsimp [w_Lput_t1, x1, x2, e]
    have l1 : (DL.cutD (lI p) none (some (ax : Int))).length ≤ 100000 := by rw [cutD_take]; simp; omega
    have l2 : (DL.cutD (lI p) (some ((ax : Int) + 1)) none).length ≤ 100000 := by rw [cutD_drop1]; simp; omega
    exact ⟨by omega, by omega, hR⟩
  · rintro x δ ⟨c, rfl, rfl, h⟩
    rw [h, if_neg (by simp)] at hR
    exact ⟨trivial, hR⟩
  · rintro i δ hi ⟨c, rfl, h⟩ K B T hK _ hT
    have y1 : p[i]? = some (gi p i) := gi_at (by omega)
    have y2 : q[i]? = some (gi q i) := gi_at (by omega)
    simp -implicitDefEqProofs -dsimp [w_Lput_1]
    by_cases e : i = ax
    · have e2 : (i : Int) = (ax : Int) := by omega
      try simp -implicitDefEqProofs -dsimp [e2]
      exact hK _ ⟨_, rfl, fun k hk hn => by
        by_cases q : k = i
        · omega
        · exact h k (by omega) hn⟩
    · have e2 : ¬ (i : Int) = (ax : Int) := by omega
      simp -implicitDefEqProofs -dsimp [e2, y1, y2]
      by_cases g : gi p i = gi q i
      · simp -implicitDefEqProofs -dsimp [g]
        exact hK _ ⟨_, rfl, fun k hk hn => by
          by_cases q : k = i
          · rw [q]; exact g
          · exact h k (by omega) hn⟩
      · simp -implicitDefEqProofs -dsimp [g]
        refine hT _ _ ⟨_, rfl, rfl, ?_⟩
        rw [Bool.eq_false_iff]
        intro w
        exact g (agree_iff.mp w i hi e)
/-- a row that may be one -/
theorem row_of {kn n idx : Nat} {v : PyData} (h : rowB kn n idx v = true) : v = (rowOf v).d ∧ RowIn kn n idx (rowOf v) := by
  have w : ∀ {lo hi : Int} {x : PyData}, wholeB lo hi x = true → ∃ i, x = .int i ∧ lo ≤ i ∧ i ≤ hi := fun {lo hi x} h => by
    cases x with
    | int i => simp [wholeB] at h; exact ⟨i, rfl, h.1, h.2⟩
    | _ => cases h
  cases v with
  | tuple rs =>
    match rs, h with
    | [a], h =>
      obtain ⟨i, rfl, h1, h2⟩ := w h
      refine ⟨?_, ?_⟩
      · show PyData.tuple [.int i] = .tuple [.int ((i.toNat : Nat) : Int)]
        rw [Int.toNat_of_nonneg h1]
      · show i.toNat < kn
        omega
    | [a, b, c], h =>
      simp only [rowB, Bool.and_eq_true] at h
      obtain ⟨⟨ha, hb⟩, hc⟩ := h
      obtain ⟨i, rfl, h1, h2⟩ := w ha
      obtain ⟨j, rfl, h3, h4⟩ := w hb
      obtain ⟨k, rfl, h5, h6⟩ := w hc
      refine ⟨?_, ?_⟩
      · show PyData.tuple [.int i, .int j, .int k] = .tuple [.int ((i.toNat : Nat) : Int), .int ((j.toNat : Nat) : Int), .int ((k.toNat : Nat) : Int)]
        rw [Int.toNat_of_nonneg h1, Int.toNat_of_nonneg h3, Int.toNat_of_nonneg h5]
      · show i.toNat < n ∧ j.toNat < idx ∧ k.toNat < idx
        omega
  | _ => cases h
/-- boxes none of which is too great -/
structure B12 (n : Nat) (bs : List (List Int)) : Prop where
  len : ∀ k ∈ bs, k.length = n
  side : ∀ k ∈ bs, In (10 ^ 12) k
theorem B12.bs {n : Nat} {bs : List (List Int)} (h : B12 n bs) : Bs n bs := ⟨h.len, fun k hk x hx => by have := h.side k hk x hx; exact ⟨this.1, Int.le_trans this.2 (by decide)⟩⟩
theorem B12.at {n : Nat} {bs : List (List Int)} (h : B12 n bs) {i : Nat} (hi : i < bs.length) : bs[i]? = some (bxOf bs i) ∧ (bxOf bs i).length = n ∧ In (10 ^ 12) (bxOf bs i) := by
  obtain ⟨e1, e2, _⟩ := h.bs.at hi
  refine ⟨e1, e2, ?_⟩
  have e : bxOf bs i = bs[i] := by unfold bxOf; rw [List.getD_eq_getElem?_getD, List.getElem?_eq_getElem hi]; rfl
  rw [e]; exact h.side _ (List.getElem_mem hi)
theorem B12.row {n : Nat} {ks bs : List (List Int)} (hk : Kd n ks) (h : B12 n bs) {r : Row} (hr : RowIn ks.length n bs.length r) (hw : wordR bs r = none) : B12 n (bs ++ [boxR ks bs r]) ∧ (boxR ks bs r).length = n ∧ In (10 ^ 12) (boxR ks bs r) := by
  have one : (boxR ks bs r).length = n ∧ In (10 ^ 12) (boxR ks bs r) := by
    cases r with
    | one k => exact (hk.at (i := k) hr).2
    | two ax i j =>
      obtain ⟨hx, hi, hj⟩ := hr
      obtain ⟨_, l1, b1⟩ := h.at hi
      obtain ⟨_, l2, b2⟩ := h.at hj
      have hw : (if agreeB (bxOf bs i) (bxOf bs j) ax = false then some ("sides" : Str) else if gi (bxOf bs i) ax + gi (bxOf bs j) ax > 10 ^ 12 then some "great" else none) = none := hw
      split at hw
      · cases hw
      · split at hw
        · cases hw
        · rename_i g
          have c1 := b1 _ (gi_mem (show ax < (bxOf bs i).length by omega))
          have c2 := b2 _ (gi_mem (show ax < (bxOf bs j).length by omega))
          exact ⟨by show ((bxOf bs i).set ax _).length = n; rw [List.length_set]; exact l1, b1.set (by omega) (by omega)⟩
  refine ⟨⟨fun k hk => ?_, fun k hk => ?_⟩, one⟩
  · rcases List.mem_append.mp hk with q | q
    · exact h.len k q
    · rw [List.mem_singleton.mp q]; exact one.1
  · rcases List.mem_append.mp hk with q | q
    · exact h.side k q
    · rw [List.mem_singleton.mp q]; exact one.2
theorem lT_app (bs : List (List Int)) (b : List Int) : lT bs ++ [tI b] = lT (bs ++ [b]) := by unfold lT; rw [List.map_append]; rfl
theorem planE_cons {ks : List (List Int)} {n : Nat} {bs : List (List Int)} {v : PyData} {vs : List PyData} : planE ks n bs (v :: vs) = match errR ks.length n bs v with | some w => some (bs.length, w) | none => planE ks n (bs ++ [boxR ks bs (rowOf v)]) vs := rfl
theorem drop_gd {rs : List PyData} {d : Nat} (h : d < rs.length) : rs.drop d = gd rs d :: rs.drop (d + 1) := by
  rw [List.drop_eq_getElem_cons h]
  congr 1
  unfold gd; rw [List.getElem?_eq_getElem h]; rfl
theorem max_box {n : Nat} {ks bs : List (List Int)} (hk : Kd n ks) (h : B12 n bs) {r : Row} (hr : RowIn ks.length n bs.length r) : (boxR ks bs r).length = n ∧ In (2 * 10 ^ 12) (boxR ks bs r) ∧ (∀ ax i j, r = .two ax i j → agreeB (bxOf bs i) (bxOf bs j) ax = true → (wordR bs r = none ↔ In (10 ^ 12) (boxR ks bs r))) := by
  cases r with
  | one k =>
    obtain ⟨_, l1, b1⟩ := hk.at (i := k) hr
    exact ⟨l1, fun x hx => by have := b1 x hx; omega, fun _ _ _ e => by cases e⟩
  | two ax i j =>
    obtain ⟨hx, hi, hj⟩ := hr
    obtain ⟨_, l1, b1⟩ := h.at hi
    obtain ⟨_, l2, b2⟩ := h.at hj
    have c1 := b1 _ (gi_mem (show ax < (bxOf bs i).length by omega))
    have c2 := b2 _ (gi_mem (show ax < (bxOf bs j).length by omega))
    refine ⟨by show ((bxOf bs i).set ax _).length = n; rw [List.length_set]; exact l1, In.set (fun x hx => by have := b1 x hx; omega) (by omega) (by omega), fun ax' i' j' e ha => ?_⟩
    cases e
    have e1 : wordR bs (.two ax i j) = if gi (bxOf bs i) ax + gi (bxOf bs j) ax > 10 ^ 12 then some ("great" : Str) else none := by
      show (if agreeB (bxOf bs i) (bxOf bs j) ax = false then some ("sides" : Str) else if gi (bxOf bs i) ax + gi (bxOf bs j) ax > 10 ^ 12 then some "great" else none) = _
      rw [ha]; rfl
    rw [e1]
    constructor
    · intro w
      split at w
      · cases w
      · exact In.set b1 (by omega) (by omega)
    · intro w
      have g : gi ((bxOf bs i).set ax (gi (bxOf bs i) ax + gi (bxOf bs j) ax)) ax = gi (bxOf bs i) ax + gi (bxOf bs j) ax := by rw [gi_set (by omega), if_pos rfl]
      have w2 := w _ (gi_mem (ns := (bxOf bs i).set ax (gi (bxOf bs i) ax + gi (bxOf bs j) ax)) (i := ax) (by rw [List.length_set]; omega))
      rw [g] at w2
      exact if_neg (by omega)
theorem rd_Lplan_error : ∀ cs R, sp_Lplan_error cs R → w_Lplan_error (endsOf cs R) (start0 6 cs) := by
  rintro _ R ⟨n, ks, v, rfl, h, hR⟩
  cases v with
  | tuple rs =>
    by_cases hl : 1 ≤ rs.length ∧ rs.length ≤ 1000
    · have hR : R (encP (planE ks n [] rs)) [.d (ksD ks), .d (.tuple rs)] := by
        have e : planA ks n (.tuple rs) = encP (planE ks n [] rs) := if_pos hl
        rw [e] at hR; exact hR
      have h1 : (1 : Int) ≤ (rs.length : Int) := by omega
      have h2 : (rs.length : Int) ≤ 1000 := by omega
      simp -implicitDefEqProofs -dsimp [w_Lplan_error, h1, h2, w_Lplan_error_t3]
      intro a
      refine ⟨by omega, for_cntZ 0 rs.length (fun d δ => ∃ (bs : List (List Int)) (c3 c4 c5 : Cell), bs.length = d ∧ B12 n bs ∧ planE ks n [] rs = planE ks n bs (rs.drop d) ∧ δ = [.d (ksD ks), .d (.tuple rs), .ol a (lT bs), c3, c4, c5]) (fun _ => False)
        (fun x δ => x = encP (planE ks n [] rs) ∧ ∃ (bs : List (List Int)) (c3 c4 c5 : Cell), δ = [.d (ksD ks), .d (.tuple rs), .ol a (lT bs), c3, c4, c5]) ⟨[], _, _, _, rfl, ⟨by simp, by simp⟩, by simp, rfl⟩ ?_ (fun _ h => h.elim) ?_ ?_⟩
      · rintro δ ⟨bs, c3, c4, c5, _, _, e, rfl⟩
        rw [e, List.drop_length] at hR
        (try simp -implicitDefEqProofs -dsimp)
        exact hR
      · rintro x δ ⟨rfl, bs, c3, c4, c5, rfl⟩
        exact ⟨trivial, hR⟩
      · rintro i δ hlt ⟨bs, c3, c4, c5, lb, hb, e, rfl⟩ K B T hK _ hT
        rw [drop_gd hlt, planE_cons] at e
        obtain ⟨v, hv⟩ : ∃ v, gd rs i = v := ⟨_, rfl⟩
        have at1 : rs[i]? = some v := by rw [gd_at hlt, hv]
        rw [hv] at e
        simp -implicitDefEqProofs -dsimp [w_Lplan_error_6, at1]
        refine ask_of (sp := sp_Lis_row) ⟨n, ks, v, i, rfl, h, ?_⟩
        (try simp -implicitDefEqProofs -dsimp)
        unfold errR at e
        cases hrow : rowB ks.length n i v with
        | false =>
          rw [if_pos (by rw [lb]; exact hrow), lb] at e
          simp -implicitDefEqProofs -dsimp [w_Lplan_error_4]
          exact hT _ _ ⟨by rw [e]; rfl, bs, _, _, _, rfl⟩
        | true =>
          rw [if_neg (by rw [lb, hrow]; simp)] at e
          obtain ⟨ev, hin⟩ := row_of hrow
          obtain ⟨r, her⟩ : ∃ r, rowOf v = r := ⟨_, rfl⟩
          rw [her] at ev hin e
          subst ev
          clear her hv at1
          obtain ⟨lx, bx, mx⟩ := max_box h hb (r := r) (by rw [lb]; exact hin)
          have fin : ∀ c3 c4 c5, wordR bs r = none → K [.d (ksD ks), .d (.tuple rs), .ol a (lT bs ++ [tI (boxR ks bs r)]), c3, c4, c5] := fun c3 c4 c5 hw => by
            rw [lT_app]
            obtain ⟨q1, q2⟩ := hb.row h (by rw [lb]; exact hin) hw
            rw [hw] at e
            exact hK _ ⟨_, _, _, _, by simp [lb], q1, e, rfl⟩
          have bad : ∀ w c3 c4 c5, wordR bs r = some w → T (.tuple [.int (i : Int), .str w]) [.d (ksD ks), .d (.tuple rs), .ol a (lT bs), c3, c4, c5] := fun w c3 c4 c5 hw => by
            rw [hw, lb] at e
            exact hT _ _ ⟨by rw [e]; rfl, bs, _, _, _, rfl⟩
          have n1 := h.n1
          have n0 := h.n0
          cases r with
          | one k =>
            obtain ⟨ek, _, bk⟩ := h.at (i := k) hin
            simp -implicitDefEqProofs -dsimp [w_Lplan_error_t2, Row.d, w_Lplan_error_s1, ek]
            simp -implicitDefEqProofs -dsimp [w_Lplan_error_t1]
            refine ⟨by omega, fun m hm hmx => ⟨by simp [CPow], ?_⟩⟩
            have := bk m hm
            rw [if_neg (by omega)]
            exact ⟨⟨a, _, rfl⟩, by omega, fin _ _ _ rfl⟩
          | two ax i1 j1 =>
            obtain ⟨hx, hi1, hj1⟩ := hin
            obtain ⟨e1, l1, _⟩ := hb.at (i := i1) (by omega)
            obtain ⟨e2, l2, _⟩ := hb.at (i := j1) (by omega)
            simp -implicitDefEqProofs -dsimp [w_Lplan_error_t2, Row.d, e1, e2]
            refine ask_of (sp := sp_Lput) ⟨_, _, ax, rfl, by omega, by omega, by omega, ?_⟩
            cases ha : agreeB (bxOf bs i1) (bxOf bs j1) ax with
            | false =>
              simp -implicitDefEqProofs -dsimp [w_Lplan_error_s1, w_Lplan_error_2]
              refine bad "sides" _ _ _ ?_
              show (if agreeB (bxOf bs i1) (bxOf bs j1) ax = false then some ("sides" : Str) else _) = _
              rw [ha]; rfl
            | true =>
              have mx := mx ax i1 j1 rfl ha
              have gr : ∀ w, wordR bs (.two ax i1 j1) = some w → w = "great" := fun w hw => by
                have e1 : wordR bs (.two ax i1 j1) = if gi (bxOf bs i1) ax + gi (bxOf bs j1) ax > 10 ^ 12 then some ("great" : Str) else none := by
                  show (if agreeB (bxOf bs i1) (bxOf bs j1) ax = false then some ("sides" : Str) else if gi (bxOf bs i1) ax + gi (bxOf bs j1) ax > 10 ^ 12 then some "great" else none) = _
                  rw [ha]; rfl
                rw [e1] at hw
                split at hw
                · exact (Option.some.inj hw).symm
                · cases hw
              have lx : (putF (bxOf bs i1) (bxOf bs j1) ax).length = n := lx
              simp -implicitDefEqProofs -dsimp [w_Lplan_error_s1, w_Lplan_error_t1]
              refine ⟨by omega, fun m hm hmx => ⟨by simp [CPow], ?_⟩⟩
              cases hw : wordR bs (.two ax i1 j1) with
              | none =>
                have := mx.mp hw m hm
                rw [if_neg (by omega)]
                exact ⟨⟨a, _, rfl⟩, by omega, fin _ _ _ hw⟩
              | some w =>
                have := gr w hw
                subst this
                have ni : ¬ In (10 ^ 12) (boxR ks bs (.two ax i1 j1)) := fun z => by rw [mx.mpr z] at hw; cases hw
                have : 10 ^ 12 < m := by
                  by_cases z : 10 ^ 12 < m
                  · exact z
                  · exact absurd (fun x hx => ⟨(bx x hx).1, by have := hmx x hx; omega⟩) ni
                rw [if_pos (by omega)]
                simp -implicitDefEqProofs -dsimp [w_Lplan_error_1]
                exact bad _ _ _ _ hw
    · have hR : R (.tuple [.none, .str "plan"]) [.d (ksD ks), .d (.tuple rs)] := by
        have e : planA ks n (.tuple rs) = .tuple [.none, .str "plan"] := if_neg hl
        rw [e] at hR; exact hR
      simp -implicitDefEqProofs -dsimp [w_Lplan_error]
      by_cases h1 : 1 ≤ rs.length
      · have h2 : ¬ ((rs.length : Int) ≤ 1000) := by omega
        have h3 : (1 : Int) ≤ (rs.length : Int) := by omega
        have h4 : (1000 : Int) < (rs.length : Int) := by omega
        simp -implicitDefEqProofs -dsimp [h4, h3, w_Lplan_error_7]
        exact hR
      · have h3 : ¬ (1 : Int) ≤ (rs.length : Int) := by omega
        simp -implicitDefEqProofs -dsimp [h3, w_Lplan_error_7]
        exact hR
  | _ => simp -implicitDefEqProofs -dsimp [w_Lplan_error, w_Lplan_error_7]; exact hR
end TW
set_option Elab.async false
set_option linter.all false
set_option maxRecDepth 100000
set_option maxHeartbeats 4000000
namespace TW
open PySem PySem.Spec PyProof.Rows L2 DL
/-- pairs of small sides -/
structure Pq9 (p q : List Int) : Prop where
  l : q.length = p.length
  l0 : 0 < p.length
  l1 : p.length ≤ 4
  p : ∀ x ∈ p, 1 ≤ x ∧ x ≤ 1000
  q : ∀ x ∈ q, 1 ≤ x ∧ x ≤ 1000
def sp_Lfar_box : DSp := fun cs R => ∃ a b c p q, cs = [.dk a b c, .d (prD p q)] ∧ Pq9 p q ∧ ∀ ns : List Int, ns.length = p.length → In (10 ^ 30) ns → R (tI ns) [.dk a b c, .d (prD p q)]
def w_Lfar_box_s1 : DTS := (wSet 3 (mL (wComp (iZip2 (wCons (wVar 3) (wCons (wVar 8) wNil))) (gT (gsCons (gN 6) (gsCons (gN 9) gsNil))) tT (wOp pMulT (wVar 6) (wVar 9)) [6, 9])))
@[simp ↓] theorem w_Lfar_box_s1_ap (E : DEnds) (δ : DS) : w_Lfar_box_s1 E δ = (wSet 3 (mL (wComp (iZip2 (wCons (wVar 3) (wCons (wVar 8) wNil))) (gT (gsCons (gN 6) (gsCons (gN 9) gsNil))) tT (wOp pMulT (wVar 6) (wVar 9)) [6, 9]))) E δ := rfl
def w_Lfar_box_s2 : DTS := (wSeq (wSet 3 (mL (wComp (iSeq (wVar 8)) (gN 9) tT (wOp pAddB (wC (.int 1)) (wOp pMulT (wCall [true, false] sp_Ldraw (wCons (wVar 0) (wCons (wOp pPow (wC (.int 10)) (wC (.int 5))) wNil))) (wOp pPow (wC (.int 10)) (wC (.int 4))))) [9]))) w_Lfar_box_s1)
@[simp ↓] theorem w_Lfar_box_s2_ap (E : DEnds) (δ : DS) : w_Lfar_box_s2 E δ = (wSeq (wSet 3 (mL (wComp (iSeq (wVar 8)) (gN 9) tT (wOp pAddB (wC (.int 1)) (wOp pMulT (wCall [true, false] sp_Ldraw (wCons (wVar 0) (wCons (wOp pPow (wC (.int 10)) (wC (.int 5))) wNil))) (wOp pPow (wC (.int 10)) (wC (.int 4))))) [9]))) w_Lfar_box_s1) E δ := rfl
def w_Lfar_box_1 : DTS := (wSeq (wSet 8 (mE (wCall [true, false] sp_Lone (wCons (wVar 0) (wCons (wOfL (wFnL pLstOf (wCons (wVar 1) wNil))) wNil))))) w_Lfar_box_s2)
def w_Lfar_box_t1 : DTS := (wRet (wFn pTupOf (wCons (wVar 3) wNil)))
def w_Lfar_box_s3 : DTS := (wPut 3 (wOp pAddB (wOp pAddB (wOp pIx (wVar 3) (wVar 7)) (wOp pMulT (wOp pIx (wOp pIx (wVar 1) (wC (.int 0))) (wVar 7)) (wCall [true, false] sp_Ldraw (wCons (wVar 0) (wCons (wC (.int 9)) wNil))))) (wOp pMulT (wOp pIx (wOp pIx (wVar 1) (wC (.int 1))) (wVar 7)) (wCall [true, false] sp_Ldraw (wCons (wVar 0) (wCons (wC (.int 9)) wNil))))) (wVar 7))
@[simp ↓] theorem w_Lfar_box_s3_ap (E : DEnds) (δ : DS) : w_Lfar_box_s3 E δ = (wPut 3 (wOp pAddB (wOp pAddB (wOp pIx (wVar 3) (wVar 7)) (wOp pMulT (wOp pIx (wOp pIx (wVar 1) (wC (.int 0))) (wVar 7)) (wCall [true, false] sp_Ldraw (wCons (wVar 0) (wCons (wC (.int 9)) wNil))))) (wOp pMulT (wOp pIx (wOp pIx (wVar 1) (wC (.int 1))) (wVar 7)) (wCall [true, false] sp_Ldraw (wCons (wVar 0) (wCons (wC (.int 9)) wNil))))) (wVar 7)) E δ := rfl
def w_Lfar_box_3 : DTS := (wSeq (wSet 7 (mE (wCall [true, false] sp_Ldraw (wCons (wVar 0) (wCons (wFn pLen (wCons (wVar 3) wNil)) wNil))))) w_Lfar_box_s3)
def w_Lfar_box_t2 : DTS := (wSeq (wIf (wB (wOp pEq (wVar 2) (wC (.int 3)))) w_Lfar_box_1 wNext) w_Lfar_box_t1)
def w_Lfar_box_s4 : DTS := (wAppend 3 (wOp pMulT (wVar 6) (wCall [true, false] sp_Lone (wCons (wVar 0) (wCons (wIfE (wB (wOp pEq (wVar 2) (wC (.int 0)))) (wOfL (wLst (wCons (wVar 4) (wCons (wVar 5) (wCons (wC (.int 1)) wNil))))) (wOfL (wLst (wCons (wCall [] sp_Llcm (wCons (wVar 4) (wCons (wVar 5) wNil))) wNil)))) wNil)))))
@[simp ↓] theorem w_Lfar_box_s4_ap (E : DEnds) (δ : DS) : w_Lfar_box_s4 E δ = (wAppend 3 (wOp pMulT (wVar 6) (wCall [true, false] sp_Lone (wCons (wVar 0) (wCons (wIfE (wB (wOp pEq (wVar 2) (wC (.int 0)))) (wOfL (wLst (wCons (wVar 4) (wCons (wVar 5) (wCons (wC (.int 1)) wNil))))) (wOfL (wLst (wCons (wCall [] sp_Llcm (wCons (wVar 4) (wCons (wVar 5) wNil))) wNil)))) wNil))))) E δ := rfl
def w_Lfar_box_5 : DTS := (wSeq (wSet 6 (mE (wOp pAddB (wOp pAddB (wC (.int 1)) (wOp pMulT (wCall [true, false] sp_Ldraw (wCons (wVar 0) (wCons (wOp pPow (wC (.int 10)) (wC (.int 5))) wNil))) (wOp pPow (wC (.int 10)) (wC (.int 5))))) (wCall [true, false] sp_Ldraw (wCons (wVar 0) (wCons (wOp pPow (wC (.int 10)) (wC (.int 5))) wNil)))))) w_Lfar_box_s4)
def w_Lfar_box_t3 : DTS := (wSeq (wIf (wB (wOp pIn (wVar 2) (wOfL (wLst (wCons (wC (.int 1)) (wCons (wC (.int 2)) wNil)))))) w_Lfar_box_3 wNext) w_Lfar_box_t2)
def w_Lfar_box_s5 : DTS := (wSeq (wFor (iZip2 (wCons (wOp pIx (wVar 1) (wC (.int 0))) (wCons (wOp pIx (wVar 1) (wC (.int 1))) wNil))) (gT (gsCons (gN 4) (gsCons (gN 5) gsNil))) w_Lfar_box_5) w_Lfar_box_t3)
@[simp ↓] theorem w_Lfar_box_s5_ap (E : DEnds) (δ : DS) : w_Lfar_box_s5 E δ = (wSeq (wFor (iZip2 (wCons (wOp pIx (wVar 1) (wC (.int 0))) (wCons (wOp pIx (wVar 1) (wC (.int 1))) wNil))) (gT (gsCons (gN 4) (gsCons (gN 5) gsNil))) w_Lfar_box_5) w_Lfar_box_t3) E δ := rfl
def w_Lfar_box : DTS := (wSeq (wPar2 2 3 (msCons (mE (wCall [true, false] sp_Ldraw (wCons (wVar 0) (wCons (wC (.int 4)) wNil)))) (msCons (mL (wLst wNil)) msNil))) w_Lfar_box_s5)
theorem ln_Lfar_box : ∀ cs R, sp_Lfar_box cs R → cs.length = 2 := by
  intro cs R h
  unfold sp_Lfar_box at h
  repeat (obtain ⟨_, h⟩ := h)
  subst_vars; rfl
end TW
set_option Elab.async false
set_option linter.all false
set_option maxRecDepth 100000
set_option maxHeartbeats 4000000
namespace TW
open PySem PySem.Spec PyProof.Rows L2 DL
theorem In.snoc {m y : Int} {ns : List Int} (h : In m ns) (h0 : 1 ≤ y) (h1 : y ≤ m) : In m (ns ++ [y]) := fun x hx => by
  rcases List.mem_append.mp hx with q | q
  · exact h x q
  · rw [List.mem_singleton.mp q]; exact ⟨h0, h1⟩
theorem snoc_lI (ms : List Int) (y : Int) : lI ms ++ [PyData.int y] = lI (ms ++ [y]) := by simp [lI]
/-- a way and a row that is being made -/
theorem rd_Lfar_box_t1 {p q ms : List Int} {R : PyData → List Cell → Prop} {a b c fa : Addr} {c2 c4 c5 c6 c7 c8 c9 : Cell} (l1 : p.length ≤ 4) (hl : ms.length = p.length) (hm : In (10 ^ 30) ms)
    (hR : ∀ ns : List Int, ns.length = p.length → In (10 ^ 30) ns → R (tI ns) [.dk a b c, .d (prD p q)]) :
    w_Lfar_box_t1 (endsOf [.dk a b c, .d (prD p q)] R) [.dk a b c, .d (prD p q), c2, .ol fa (lI ms), c4, c5, c6, c7, c8, c9] := by
  simp -implicitDefEqProofs -dsimp [w_Lfar_box_t1]
  first | exact ⟨by omega, hR ms hl hm⟩ | exact hR ms hl hm
theorem rd_Lfar_box : ∀ cs R, sp_Lfar_box cs R → w_Lfar_box (endsOf cs R) (start0 10 cs) := by
  rintro _ R ⟨a, b, c, p, q, rfl, ⟨lq, l0, l1, hp, hq⟩, hR⟩
  simp -implicitDefEqProofs -dsimp [w_Lfar_box]
  refine ask_draw (by omega) (by omega) fun way r0 r1 => ?_
  (try simp -implicitDefEqProofs -dsimp)
  intro fa
  have gp := fun i (hi : i < p.length) => hp _ (gi_mem hi)
  have gq := fun i (hi : i < p.length) => hq _ (gi_mem (show i < q.length by omega))
  refine for_plain (List.range p.length) (fun i => .tuple [.int (gi p i), .int (gi q i)]) (by unfold lI; rw [pairsD_zip, zip_gi (by omega), List.map_map]; rfl) (fun rest δ => ∃ (ms : List Int) (c4 c5 c6 : Cell), δ = [.dk a b c, .d (prD p q), .d (.int way), .ol fa (lI ms), c4, c5, c6, .em, .em, .em] ∧ In (10 ^ 20) ms ∧ ms.length + rest.length = p.length ∧ ∀ i ∈ rest, i < p.length) ⟨[], _, _, _, rfl, (fun x hx => by cases hx), by simp, fun i hi => List.mem_range.mp hi⟩ ?_ ?_
  · rintro δ ⟨ms, c4, c5, c6, rfl, hm, hl, _⟩
    have hl : ms.length = p.length := by simpa using hl
    have big : ∀ {m : Int} {ns : List Int}, m ≤ 10 ^ 30 → In m ns → In (10 ^ 30) ns := fun h q x hx => ⟨(q x hx).1, by have := (q x hx).2; omega⟩
    simp -implicitDefEqProofs -dsimp [w_Lfar_box_t3]
    refine ⟨by simp [SeqAt.shaped, PyData.canLay0, PyData.canLayAll0, PyData.depth, PyData.depthAll], by decide +kernel, ?_⟩
    have k2 : ∀ {ns : List Int} {c7 c8 c9 : Cell}, ns.length = p.length → In (10 ^ 30) ns → w_Lfar_box_t2 (endsOf [.dk a b c, .d (prD p q)] R) [.dk a b c, .d (prD p q), .d (.int way), .ol fa (lI ns), c4, c5, c6, c7, c8, c9] := fun {ns c7 c8 c9} nl ni => by
      simp -implicitDefEqProofs -dsimp [w_Lfar_box_t2]
      by_cases z : way = 3
      · rw [if_pos z]
        simp -implicitDefEqProofs -dsimp [w_Lfar_box_1]
        refine ask_of ⟨a, b, c, _, _, rfl, rfl, by simp, by simp, fun y hy => ?_⟩
        have hy : ∃ br, y = tI br ∧ br.length = p.length ∧ (∀ x ∈ br, 1 ≤ x ∧ x ≤ 1000) := by
          simp only [List.mem_cons, List.not_mem_nil, or_false] at hy
          rcases hy with rfl | rfl
          · exact ⟨p, rfl, rfl, hp⟩
          · exact ⟨q, rfl, lq, hq⟩
        obtain ⟨br, rfl, lb, pb⟩ := hy
        simp -implicitDefEqProofs -dsimp [w_Lfar_box_s2]
        refine com_ints (fun i => 1 ≤ i ∧ i ≤ 10 ^ 10) (fun x hx acc K hK => ?_) fun gs lg ng => ?_
        · simp -implicitDefEqProofs -dsimp [CPow]
          refine ask_draw (by omega) (by omega) fun d d0 d1 => ?_
          simp -implicitDefEqProofs -dsimp [CPow]
          exact ⟨cm_l (by omega), hK _ (by omega)⟩
        · have lg : gs.length = br.length := by simpa using lg
          (try simp -implicitDefEqProofs -dsimp)
          intro fb
          refine com_map (List.range gs.length) (fun i => .tuple [.int (gi gs i), .int (gi br i)]) (by unfold lI; rw [pairsD_zip, zip_gi (by omega), List.map_map]; rfl) (fun i => some (.int (gi gs i * gi br i))) (fun i hi acc K hK => ?_) ?_
          · have hi := List.mem_range.mp hi
            have g1 := ng _ (gi_mem hi)
            have g2 := pb _ (gi_mem (show i < br.length by omega))
            (try simp -implicitDefEqProofs -dsimp)
            exact ⟨cm_l (by omega), hK⟩
          · have e0 : List.filterMap (fun i => some (PyData.int (gi gs i * gi br i))) (List.range gs.length) = lI ((List.range gs.length).map fun i => gi gs i * gi br i) := by
              unfold lI; rw [List.map_map]; simp [Function.comp_def]
            rw [e0]
            have nl2 : ((List.range gs.length).map fun i => gi gs i * gi br i).length = p.length := by simp; omega
            have ni2 : In (10 ^ 30) ((List.range gs.length).map fun i => gi gs i * gi br i) := fun x hx => by
              obtain ⟨i, hi, rfl⟩ := List.mem_map.mp hx
              have hi := List.mem_range.mp hi
              have g1 := ng _ (gi_mem hi)
              have g2 := pb _ (gi_mem (show i < br.length by omega))
              have v1 := Int.mul_le_mul g1.2 g2.2 (by omega) (by omega)
              have v2 := Int.mul_le_mul g1.1 g2.1 (by omega) (by omega)
              omega
            revert nl2 ni2
            generalize ((List.range gs.length).map fun i => gi gs i * gi br i) = ns2
            intro nl2 ni2
            (try simp -implicitDefEqProofs -dsimp)
            intro fc
            exact rd_Lfar_box_t1 l1 nl2 ni2 hR
      · rw [if_neg z]
        exact rd_Lfar_box_t1 l1 nl ni hR
    split
    · simp -implicitDefEqProofs -dsimp [w_Lfar_box_3]
      refine ask_draw (by omega) (by omega) fun ax x0 x1 => ?_
      obtain ⟨ax, rfl⟩ : ∃ k : Nat, ax = k := ⟨ax.toNat, by omega⟩
      have hax : ax < p.length := by omega
      have b1 := gp ax hax
      have b2 := gq ax hax
      simp -implicitDefEqProofs -dsimp [w_Lfar_box_s3, gi_at (show ax < p.length by omega), gi_at (show ax < q.length by omega), gi_at (show ax < ms.length by omega)]
      refine ask_draw (by omega) (by omega) fun x y0 y1 => ?_
      simp -implicitDefEqProofs -dsimp [gi_at (show ax < q.length by omega)]
      refine ⟨cm_l (by omega), ask_draw (by omega) (by omega) fun y z0 z1 => ?_⟩
      (try simp -implicitDefEqProofs -dsimp)
      refine ⟨cm_l (by omega), ⟨fa, _, rfl⟩, ax, ?_, ?_⟩
      · rw [ixN_nn (by omega) (by simp; omega)]; simp
      · (try simp -implicitDefEqProofs -dsimp)
        rw [← List.map_set]
        have v1 := Int.mul_le_mul b1.2 (show x ≤ 9 by omega) (by omega) (by omega)
        have v2 := Int.mul_le_mul b2.2 (show y ≤ 9 by omega) (by omega) (by omega)
        have v3 := Int.mul_nonneg (show 0 ≤ gi p ax by omega) y0
        have v4 := Int.mul_nonneg (show 0 ≤ gi q ax by omega) z0
        have v5 := hm _ (gi_mem (show ax < ms.length by omega))
        exact k2 (by simpa using hl) (In.set (fun x hx => ⟨(hm x hx).1, by have := (hm x hx).2; omega⟩) (by omega) (by omega))
    · exact k2 hl (fun x hx => ⟨(hm x hx).1, by have := (hm x hx).2; omega⟩)
  · rintro i rest δ ⟨ms, c4, c5, c6, rfl, hm, hl, hi⟩ K B T hK
    have hil := hi i (List.mem_cons_self ..)
    have b1 := gp i hil
    have b2 := gq i hil
    obtain ⟨u0, u1, _⟩ := lcm_pos b1.1 b2.1
    have u2 := Int.mul_le_mul b1.2 b2.2 (by omega) (by omega)
    have fin : ∀ d e z : Int, 0 ≤ d → d < 10 ^ 5 → 0 ≤ e → e < 10 ^ 5 → 1 ≤ z → z ≤ 10 ^ 6 → 1 ≤ (1 + d * 100000 + e) * z ∧ (1 + d * 100000 + e) * z ≤ 10 ^ 20 := fun d e z d0 d1 e0 e1 z0 z1 => by
      have v1 := Int.mul_le_mul (show 1 + d * 100000 + e ≤ 10 ^ 11 by omega) z1 (by omega) (by omega)
      have v2 := Int.mul_le_mul (show 1 ≤ 1 + d * 100000 + e by omega) z0 (by omega) (by omega)
      omega
    simp -implicitDefEqProofs -dsimp [w_Lfar_box_5, CPow]
    refine ask_draw (by omega) (by omega) fun d d0 d1 => ?_
    simp -implicitDefEqProofs -dsimp [CPow]
    refine ⟨cm_l (by omega), ask_draw (by omega) (by omega) fun e e0 e1 => ?_⟩
    simp -implicitDefEqProofs -dsimp [w_Lfar_box_s4]
    refine ⟨⟨fa, _, rfl⟩, ?_⟩
    by_cases z : way = 0
    · rw [if_pos z]
      refine ask_of ⟨a, b, c, _, _, rfl, rfl, by simp, by simp, fun x hx => ?_⟩
      have hx : ∃ k, x = .int k ∧ 1 ≤ k ∧ k ≤ 10 ^ 6 := by
        simp only [List.mem_cons, List.not_mem_nil, or_false] at hx
        rcases hx with rfl | rfl | rfl
        · exact ⟨_, rfl, by omega⟩
        · exact ⟨_, rfl, by omega⟩
        · exact ⟨_, rfl, by omega⟩
      obtain ⟨k, rfl, k0, k1⟩ := hx
      obtain ⟨f0, f1⟩ := fin d e k d0 (by omega) e0 (by omega) k0 k1
      (try simp -implicitDefEqProofs -dsimp)
      rw [snoc_lI]
      refine ⟨cm_l (by omega), by omega, hK _ ⟨_, _, _, _, rfl, hm.snoc f0 f1, by simp at hl ⊢; omega, fun j hj => hi j (List.mem_cons_of_mem _ hj)⟩⟩
    · rw [if_neg z]
      refine ask_of (sp := sp_Llcm) ⟨_, _, rfl, Pos.of b1.1 (by omega), Pos.of b2.1 (by omega), ?_⟩
      (try simp -implicitDefEqProofs -dsimp)
      refine ask_of ⟨a, b, c, _, _, rfl, rfl, by simp, by simp, fun x hx => ?_⟩
      have hx := List.mem_singleton.mp hx
      subst hx
      obtain ⟨f0, f1⟩ := fin d e _ d0 (by omega) e0 (by omega) u0 (by omega)
      (try simp -implicitDefEqProofs -dsimp)
      rw [snoc_lI]
      refine ⟨cm_l (by omega), by omega, hK _ ⟨_, _, _, _, rfl, hm.snoc f0 f1, by simp at hl ⊢; omega, fun j hj => hi j (List.mem_cons_of_mem _ hj)⟩⟩
end TW
set_option Elab.async false
set_option linter.all false
set_option maxRecDepth 100000
set_option maxHeartbeats 4000000
namespace TW
open PySem PySem.Spec PyProof.Rows L2 DL
def jointF (a b : Int) : Int := a / gcdI a b * b
/-- which sides fit -/
inductive Way
  | non
  | steps (k : Int)
  | sums (l h : Int)
def Way.d : Way → PyData
  | .non => .tuple [.str "none"]
  | .steps k => .tuple [.str "steps", .int k]
  | .sums l h => .tuple [.str "sums", .int l, .int h]
def Way.fits : Way → Int → Bool
  | .non, _ => false
  | .steps k, s => decide (s % k = 0)
  | .sums l h, s => isSum l h s
def sp_Lfar_sum : DSp := fun cs R => ∃ s a b : Int, cs = [.d (.int s), .d (.int a), .d (.int b)] ∧ 0 ≤ s ∧ s ≤ 10 ^ 60 ∧ 1 ≤ a ∧ a ≤ 1000 ∧ 1 ≤ b ∧ b ≤ 1000 ∧ R (.bool (isSum a b s)) cs
def sp_Lfar_filled : DSp := fun cs R => ∃ a b bx, cs = [.d (prD a b), .d (tI bx)] ∧ PB a b bx ∧ In 1000 a ∧ In 1000 b ∧ In (10 ^ 60) bx ∧ R (.bool (fillB a b bx)) cs
def gapF : Way → PyData
  | .steps k => if k = 1 then .int 0 else .none
  | .sums l h => if gcdI l h = 1 then .int (l * h - l - h) else .none
  | .non => .none
def tailF : Way → PyData
  | .steps k => .tuple [.int 1, .int k]
  | .sums l h => .tuple [.int (jointF l h - l - h + 1), .int (gcdI l h)]
  | .non => .tuple [.int 1, .int 1]
def w_Lfar_sum : DTS := (wRet (wOp pNe (wOfL (wComp (iRange1 (wCons (wVar 2) wNil)) (gN 3) (wAnd (wB (wOp pLe (wOp pMulT (wVar 3) (wVar 1)) (wVar 0))) (wB (wOp pEq (wOp pMod (wFn pInt (wCons (wOp pSubB (wVar 0) (wOp pMulT (wVar 3) (wVar 1))) wNil)) (wVar 2)) (wC (.int 0))))) (wVar 3) [3])) (wOfL (wLst wNil))))
def w_Lfar_filled_t1 : DTS := (wRet (wCall [] sp_Lfar_sum (wCons (wOp pIx (wVar 1) (wOp pIx (wVar 2) (wC (.int 0)))) (wCons (wOp pIx (wOp pIx (wVar 0) (wC (.int 0))) (wOp pIx (wVar 2) (wC (.int 0)))) (wCons (wOp pIx (wOp pIx (wVar 0) (wC (.int 1))) (wOp pIx (wVar 2) (wC (.int 0)))) wNil)))))
def w_Lfar_filled_t2 : DTS := (wSeq (wIf (wOr (wB (wOp pGt (wFn pLen (wCons (wVar 2) wNil)) (wC (.int 1)))) (wB (wOp pNe (wVar 2) (wVar 3)))) (wRet (wC (.bool false))) wNext) w_Lfar_filled_t1)
def w_Lfar_filled_s1 : DTS := (wSeq (wIf (wOr (wB (wOp pEq (wVar 2) (wOfL (wLst wNil)))) (wB (wOp pEq (wVar 3) (wOfL (wLst wNil))))) (wRet (wC (.bool true))) wNext) w_Lfar_filled_t2)
@[simp ↓] theorem w_Lfar_filled_s1_ap (E : DEnds) (δ : DS) : w_Lfar_filled_s1 E δ = (wSeq (wIf (wOr (wB (wOp pEq (wVar 2) (wOfL (wLst wNil)))) (wB (wOp pEq (wVar 3) (wOfL (wLst wNil))))) (wRet (wC (.bool true))) wNext) w_Lfar_filled_t2) E δ := rfl
def w_Lfar_filled : DTS := (wSeq (wPar2 2 3 (msCons (mE (wCall [] sp_Lrests (wCons (wOp pIx (wVar 0) (wC (.int 0))) (wCons (wVar 1) wNil)))) (msCons (mE (wCall [] sp_Lrests (wCons (wOp pIx (wVar 0) (wC (.int 1))) (wCons (wVar 1) wNil)))) msNil))) w_Lfar_filled_s1)
theorem ln_Lfar_sum : ∀ cs R, sp_Lfar_sum cs R → cs.length = 3 := by
  intro cs R h
  unfold sp_Lfar_sum at h
  repeat (obtain ⟨_, h⟩ := h)
  subst_vars; rfl
theorem ln_Lfar_filled : ∀ cs R, sp_Lfar_filled cs R → cs.length = 2 := by
  intro cs R h
  unfold sp_Lfar_filled at h
  repeat (obtain ⟨_, h⟩ := h)
  subst_vars; rfl
end TW
set_option Elab.async false
set_option linter.all false
set_option maxRecDepth 100000
set_option maxHeartbeats 4000000
namespace TW
open PySem PySem.Spec PyProof.Rows L2 DL
/-- a sum, seen by the rests of the other's multiples -/
theorem isSum_k {a b s : Int} (s0 : 0 ≤ s) (a0 : 1 ≤ a) (b0 : 1 ≤ b) : isSum a b s = !((List.range b.toNat).filter fun (k : Nat) => decide ((k : Int) * a ≤ s) && decide ((s - (k : Int) * a) % b = 0)).isEmpty := by
  rw [Bool.eq_iff_iff, isSum_iff a0 b0]
  simp only [Bool.not_eq_true', List.isEmpty_eq_false_iff_exists_mem, List.mem_filter, List.mem_range, Bool.and_eq_true, decide_eq_true_eq]
  constructor
  · rintro ⟨x, y, x0, y0, e⟩
    have m0 := Int.emod_nonneg x (show b ≠ 0 by omega)
    have m1 := Int.emod_lt_of_pos x (show 0 < b by omega)
    have md := Int.mul_ediv_add_emod x b
    have q0 := Int.ediv_nonneg x0 (show 0 ≤ b by omega)
    have ee : s - (x % b) * a = b * (y + x / b * a) := by
      rw [← e, Int.mul_add, ← Int.mul_assoc]
      have : a * x = b * (x / b) * a + x % b * a := by rw [← Int.add_mul, md, Int.mul_comm]
      rw [this]; omega
    have z := Int.mul_nonneg (show 0 ≤ b by omega) (show 0 ≤ y + x / b * a from Int.add_nonneg y0 (Int.mul_nonneg q0 (by omega)))
    refine ⟨(x % b).toNat, by omega, ?_, ?_⟩
    · rw [Int.toNat_of_nonneg m0]; omega
    · rw [Int.toNat_of_nonneg m0, ee]; exact Int.mul_emod_right ..
  · rintro ⟨k, hk, h1, h2⟩
    have e := Int.mul_ediv_cancel' (Int.dvd_of_emod_eq_zero h2)
    exact ⟨k, (s - (k : Int) * a) / b, by omega, Int.ediv_nonneg (by omega) (by omega), by rw [e, Int.mul_comm a]; omega⟩
theorem rd_Lfar_sum : ∀ cs R, sp_Lfar_sum cs R → w_Lfar_sum (endsOf cs R) (start0 4 cs) := by
  rintro _ R ⟨s, a, b, rfl, s0, s1, a0, a1, b0, b1, hR⟩
  simp -implicitDefEqProofs -dsimp [w_Lfar_sum]
  refine ⟨by omega, by omega, ?_⟩
  rw [nums_0]
  refine com_map (List.range b.toNat) _ rfl (fun k => if (decide ((k : Int) * a ≤ s) && decide ((s - (k : Int) * a) % b = 0)) = true then some (.int (k : Nat)) else none) (fun k hk acc K hK => ?_) ?_
  · have hk := List.mem_range.mp hk
    (try simp -implicitDefEqProofs -dsimp)
    try refine ⟨cm_r (by omega), ?_⟩
    by_cases c : (k : Int) * a ≤ s
    · rw [if_pos c]
      refine ⟨cm_r (by omega), by omega, ?_⟩
      split
      · rename_i z
        simpa [z, c] using hK
      · rename_i z
        simpa [z, c] using hK
    · rw [if_neg c]
      simpa [c] using hK
  · rw [fm_map]
    (try simp -implicitDefEqProofs -dsimp)
    rw [isSum_k s0 a0 b0] at hR
    refine ⟨shaped_nats _, shaped_nil, ?_⟩
    rw [eqv_nats]
    exact hR
theorem rd_Lfar_filled : ∀ cs R, sp_Lfar_filled cs R → w_Lfar_filled (endsOf cs R) (start0 4 cs) := by
  rintro _ R ⟨a, b, bx, rfl, h, ha, hb, hx, hR⟩
  have l1 := h.l1
  have la := h.la
  have lb := h.lb
  simp -implicitDefEqProofs -dsimp [w_Lfar_filled]
  refine ask_of (sp := sp_Lrests) ⟨a, bx, rfl, by omega, by omega, fun x h => (ha x h).1, ?_⟩
  (try simp -implicitDefEqProofs -dsimp)
  refine ask_of (sp := sp_Lrests) ⟨b, bx, rfl, by omega, by omega, fun x h => (hb x h).1, ?_⟩
  simp -implicitDefEqProofs -dsimp [w_Lfar_filled_s1, shaped_nats, eqv_nats, shaped_nil]
  unfold fillB at hR
  by_cases ea : restsF a bx = []
  · rw [ea] at hR
    rw [if_pos ea]
    exact hR
  rw [if_neg ea]
  by_cases eb : restsF b bx = []
  · rw [eb] at hR
    rw [if_pos eb]
    simpa using hR
  rw [if_neg eb]
  have na : (restsF a bx).isEmpty = false := by simpa using ea
  have nb : (restsF b bx).isEmpty = false := by simpa using eb
  rw [na, nb, Bool.false_or, Bool.false_or] at hR
  simp -implicitDefEqProofs -dsimp [w_Lfar_filled_t2, shaped_nats, eqv_natsA]
  by_cases h1 : 1 < (restsF a bx).length
  · have : ¬ (restsF a bx).length = 1 := by omega
    rw [if_pos (by omega)]
    simpa [this] using hR
  by_cases h2 : restsF a bx = restsF b bx
  · have h3 : (restsF a bx).length = 1 := by
      have : 0 < (restsF a bx).length := List.length_pos_iff.mpr ea
      omega
    obtain ⟨ax, hax⟩ := List.length_eq_one_iff.mp h3
    have hlt : ax < bx.length := (mem_rests.mp (by rw [hax]; exact List.mem_cons_self ..)).1
    rw [if_neg (by omega), if_pos h2]
    rw [← h2, hax] at hR ⊢
    simp -implicitDefEqProofs -dsimp [w_Lfar_filled_t1, gi_at (show ax < a.length by omega), gi_at (show ax < b.length by omega), gi_at hlt]
    have x0 := hx _ (gi_mem hlt)
    have a0 := ha _ (gi_mem (show ax < a.length by omega))
    have b0 := hb _ (gi_mem (show ax < b.length by omega))
    refine ask_of (sp := sp_Lfar_sum) ⟨_, _, _, rfl, by omega, by omega, a0.1, a0.2, b0.1, b0.2, ?_⟩
    simpa using hR
  · rw [if_neg (by omega), if_neg h2]
    simpa [h2] using hR
end TW
set_option Elab.async false
set_option linter.all false
set_option maxRecDepth 100000
set_option maxHeartbeats 4000000
namespace TW
open PySem PySem.Spec PyProof.Rows L2 DL
end TW
set_option Elab.async false
set_option linter.all false
set_option maxRecDepth 100000
set_option maxHeartbeats 4000000
namespace TW
open PySem PySem.Spec PyProof.Rows L2 DL
/-- how it goes on -/
structure Tail (w : Way) (c g : Int) : Prop where
  g1 : 1 ≤ g
  c0 : 0 ≤ c
  far : ∀ s, c < s → (w.fits s = true ↔ g ∣ s)
  at0 : c = 0 ∨ (1 ≤ c ∧ w.fits c = false ∧ g ∣ c)
  tl : tailF w = .tuple [.int (c + 1), .int g]
  gp : gapF w = if g = 1 then .int c else .none
end TW
set_option Elab.async false
set_option linter.all false
set_option maxRecDepth 100000
set_option maxHeartbeats 4000000
namespace TW
open PySem PySem.Spec PyProof.Rows L2 DL
end TW
set_option Elab.async false
set_option linter.all false
set_option maxRecDepth 100000
set_option maxHeartbeats 4000000
namespace TW
open PySem PySem.Spec PyProof.Rows L2 DL
end TW
set_option Elab.async false
set_option linter.all false
set_option maxRecDepth 100000
set_option maxHeartbeats 4000000
namespace TW
open PySem PySem.Spec PyProof.Rows L2 DL
end TW
set_option Elab.async false
set_option linter.all false
set_option maxRecDepth 100000
set_option maxHeartbeats 4000000
namespace TW
open PySem PySem.Spec PyProof.Rows L2 DL
end TW
set_option Elab.async false
set_option linter.all false
set_option maxRecDepth 100000
set_option maxHeartbeats 4000000
namespace TW
open PySem PySem.Spec PyProof.Rows L2 DL
theorem bx_mem {ks : List (List Int)} {k : Nat} (h : k < ks.length) : bxOf ks k ∈ ks := by
  unfold bxOf; rw [List.getD_eq_getElem?_getD, List.getElem?_eq_getElem h]; exact List.getElem_mem h
end TW
set_option Elab.async false
set_option linter.all false
set_option maxRecDepth 100000
set_option maxHeartbeats 4000000
namespace TW
open PySem PySem.Spec PyProof.Rows L2 DL
def atK (k : Nat) (c : List Int) : PyData := .tuple [.int (k : Int), tI c]
end TW
set_option Elab.async false
set_option linter.all false
set_option maxRecDepth 100000
set_option maxHeartbeats 4000000
namespace TW
open PySem PySem.Spec PyProof.Rows L2 DL
end TW
set_option Elab.async false
set_option linter.all false
set_option maxRecDepth 100000
set_option maxHeartbeats 4000000
namespace TW
open PySem PySem.Spec PyProof.Rows L2 DL
end TW
set_option Elab.async false
set_option linter.all false
set_option maxRecDepth 100000
set_option maxHeartbeats 4000000
namespace TW
open PySem PySem.Spec PyProof.Rows L2 DL
/-- one box after another -/
def boxesR (ks : List (List Int)) : List (List Int) → List Row → List (List Int)
  | bs, [] => bs
  | bs, r :: rs => boxesR ks (bs ++ [boxR ks bs r]) rs
def RowGood (kn n : Nat) (bs : List (List Int)) (r : Row) : Prop := RowIn kn n bs.length r ∧ ∀ ax i j, r = .two ax i j → agreeB (bxOf bs i) (bxOf bs j) ax = true
def ValidR (ks : List (List Int)) (n : Nat) : List (List Int) → List Row → Prop
  | _, [] => True
  | bs, r :: rs => RowGood ks.length n bs r ∧ ValidR ks n (bs ++ [boxR ks bs r]) rs
abbrev rowsD (rs : List Row) : PyData := .tuple (rs.map Row.d)
end TW
set_option Elab.async false
set_option linter.all false
set_option maxRecDepth 100000
set_option maxHeartbeats 4000000
namespace TW
open PySem PySem.Spec PyProof.Rows L2 DL
theorem boxesR_app (ks : List (List Int)) : ∀ (xs ys : List Row) (bs : List (List Int)), boxesR ks bs (xs ++ ys) = boxesR ks (boxesR ks bs xs) ys
  | [], _, _ => rfl
  | x :: xs, ys, bs => boxesR_app ks xs ys _
theorem valid_app (ks : List (List Int)) (n : Nat) : ∀ (xs ys : List Row) (bs : List (List Int)), ValidR ks n bs (xs ++ ys) ↔ ValidR ks n bs xs ∧ ValidR ks n (boxesR ks bs xs) ys
  | [], _, _ => ⟨fun h => ⟨trivial, h⟩, fun h => h.2⟩
  | x :: xs, ys, bs => by
    have := valid_app ks n xs ys (bs ++ [boxR ks bs x])
    show (RowGood ks.length n bs x ∧ ValidR ks n _ (xs ++ ys)) ↔ (RowGood ks.length n bs x ∧ ValidR ks n _ xs) ∧ ValidR ks n (boxesR ks (bs ++ [boxR ks bs x]) xs) ys
    rw [this, and_assoc]
theorem boxesR_ext (ks : List (List Int)) : ∀ (xs : List Row) (bs : List (List Int)), ∃ t, boxesR ks bs xs = bs ++ t ∧ t.length = xs.length
  | [], bs => ⟨[], by simp [boxesR], rfl⟩
  | x :: xs, bs => by
    obtain ⟨t, e, l⟩ := boxesR_ext ks xs (bs ++ [boxR ks bs x])
    exact ⟨boxR ks bs x :: t, by show boxesR ks (bs ++ [boxR ks bs x]) xs = _; rw [e]; simp, by simp [l]⟩
theorem boxesR_len (ks : List (List Int)) (xs : List Row) (bs : List (List Int)) : (boxesR ks bs xs).length = bs.length + xs.length := by
  obtain ⟨t, e, l⟩ := boxesR_ext ks xs bs
  rw [e, List.length_append, l]
theorem boxesR_take (ks : List (List Int)) (rs : List Row) (m : Nat) : boxesR ks [] (rs.take m) = (boxesR ks [] rs).take m := by
  by_cases h : m ≤ rs.length
  · have e := boxesR_app ks (rs.take m) (rs.drop m) []
    rw [List.take_append_drop] at e
    obtain ⟨t, e2, _⟩ := boxesR_ext ks (rs.drop m) (boxesR ks [] (rs.take m))
    rw [e, e2, List.take_left']
    rw [boxesR_len, List.length_take]; simp; omega
  · rw [List.take_of_length_le (by omega), List.take_of_length_le (by rw [boxesR_len]; simp; omega)]
theorem valid_take {ks : List (List Int)} {n : Nat} {rs : List Row} (h : ValidR ks n [] rs) (m : Nat) : ValidR ks n [] (rs.take m) := by
  have := (valid_app ks n (rs.take m) (rs.drop m) []).mp (by rw [List.take_append_drop]; exact h)
  exact this.1
theorem bxOf_take {bs : List (List Int)} {m i : Nat} (h : i < m) : bxOf (bs.take m) i = bxOf bs i := by
  unfold bxOf
  rw [List.getD_eq_getElem?_getD, List.getD_eq_getElem?_getD, List.getElem?_take, if_pos h]
/-- boxes with sides up to a bound -/
structure Bm (n : Nat) (m : Int) (bs : List (List Int)) : Prop where
  ok : ∀ b ∈ bs, b.length = n ∧ In m b
theorem Bm.at {n : Nat} {m : Int} {bs : List (List Int)} (h : Bm n m bs) {i : Nat} (hi : i < bs.length) : bs[i]? = some (bxOf bs i) ∧ (bxOf bs i).length = n ∧ In m (bxOf bs i) := by
  have e : bxOf bs i = bs[i] := by unfold bxOf; rw [List.getD_eq_getElem?_getD, List.getElem?_eq_getElem hi]; rfl
  exact ⟨by rw [e, List.getElem?_eq_getElem hi], by rw [e]; exact h.ok _ (List.getElem_mem hi)⟩
theorem Bm.snoc {n : Nat} {m : Int} {bs : List (List Int)} (h : Bm n m bs) {b : List Int} (l : b.length = n) (i : In m b) : Bm n m (bs ++ [b]) := ⟨fun x hx => by
  rcases List.mem_append.mp hx with q | q
  · exact h.ok x q
  · rw [List.mem_singleton.mp q]; exact ⟨l, i⟩⟩
theorem In.small {m : Int} {p : List Int} (h : In m p) (hm : m ≤ 10 ^ 12) : ∀ x ∈ p, -(2 ^ 64) < x ∧ x < 2 ^ 64 := fun x hx => by have := h x hx; omega
end TW
set_option Elab.async false
set_option linter.all false
set_option maxRecDepth 100000
set_option maxHeartbeats 4000000
namespace TW
open PySem PySem.Spec PyProof.Rows L2 DL
/-- how many bricks of each kind -/
def cntR (kn : Nat) (cs : List (List Int)) : Row → List Int
  | .one k => (List.range kn).map fun q => if q = k then 1 else 0
  | .two _ i j => (List.range kn).map fun q => gi (bxOf cs i) q + gi (bxOf cs j) q
def cntsR (kn : Nat) : List (List Int) → List Row → List (List Int)
  | cs, [] => cs
  | cs, r :: rs => cntsR kn (cs ++ [cntR kn cs r]) rs
/-- how many rows are gone through -/
def wtR (ws : List Nat) : Row → Nat
  | .one _ => 1
  | .two _ i j => ws.getD i 0 + ws.getD j 0 + 1
def wtsR : List Nat → List Row → List Nat
  | ws, [] => ws
  | ws, r :: rs => wtsR (ws ++ [wtR ws r]) rs
def plD (p : Nat × List Int) : PyData := .tuple [.int (p.1 : Int), tI p.2]
abbrev Pl (n : Nat) (ks : List (List Int)) (rs : List Row) : Prop := Kd n ks ∧ ValidR ks n [] rs ∧ 0 < rs.length ∧ rs.length ≤ 1100
def sp_boxes_of : DSp := fun cs R => ∃ n ks rs, cs = [.d (ksD ks), .d (rowsD rs)] ∧ Pl n ks rs ∧ R (.list (lT (boxesR ks [] rs))) cs
def sp_bricks_of : DSp := fun cs R => ∃ n ks rs, cs = [.d (ksD ks), .d (rowsD rs)] ∧ Pl n ks rs ∧ R (tI (bxOf (cntsR ks.length [] rs) (rs.length - 1))) cs
def sp_Lplan_boxes : DSp := sp_boxes_of
def sp_Lplan_bricks : DSp := sp_bricks_of
def w_Lplan_boxes_1 : DTS := (wAppend 2 (wIfE (wB (wOp pEq (wFn pLen (wCons (wVar 3) wNil)) (wC (.int 1)))) (wOp pIx (wVar 0) (wOp pIx (wVar 3) (wC (.int 0)))) (wCall [] sp_Lput (wCons (wOp pIx (wVar 2) (wOp pIx (wVar 3) (wC (.int 1)))) (wCons (wOp pIx (wVar 2) (wOp pIx (wVar 3) (wC (.int 2)))) (wCons (wOp pIx (wVar 3) (wC (.int 0))) wNil))))))
def w_Lplan_boxes_s1 : DTS := (wSeq (wFor (iSeq (wVar 1)) (gN 3) w_Lplan_boxes_1) (wRet (wVar 2)))
@[simp ↓] theorem w_Lplan_boxes_s1_ap (E : DEnds) (δ : DS) : w_Lplan_boxes_s1 E δ = (wSeq (wFor (iSeq (wVar 1)) (gN 3) w_Lplan_boxes_1) (wRet (wVar 2))) E δ := rfl
def w_Lplan_boxes : DTS := (wSeq (wSet 2 (mL (wLst wNil))) w_Lplan_boxes_s1)
def w_Lplan_bricks_1 : DTS := (wAppend 2 (wOfL (wComp (iRange1 (wCons (wFn pLen (wCons (wVar 0) wNil)) wNil)) (gN 4) tT (wFn pInt (wCons (wOp pEq (wVar 4) (wOp pIx (wVar 3) (wC (.int 0)))) wNil)) [4])))
def w_Lplan_bricks_2 : DTS := (wIf (wB (wOp pEq (wFn pLen (wCons (wVar 3) wNil)) (wC (.int 1)))) w_Lplan_bricks_1 (wAppend 2 (wOfL (wComp (iZip2 (wCons (wOp pIx (wVar 2) (wOp pIx (wVar 3) (wC (.int 1)))) (wCons (wOp pIx (wVar 2) (wOp pIx (wVar 3) (wC (.int 2)))) wNil))) (gT (gsCons (gN 5) (gsCons (gN 6) gsNil))) tT (wOp pAddB (wVar 5) (wVar 6)) [5, 6]))))
def w_Lplan_bricks_t1 : DTS := (wRet (wFn pTupOf (wCons (wOp pIx (wVar 2) (wUn pNeg (wC (.int 1)))) wNil)))
def w_Lplan_bricks_s1 : DTS := (wSeq (wFor (iSeq (wVar 1)) (gN 3) w_Lplan_bricks_2) w_Lplan_bricks_t1)
@[simp ↓] theorem w_Lplan_bricks_s1_ap (E : DEnds) (δ : DS) : w_Lplan_bricks_s1 E δ = (wSeq (wFor (iSeq (wVar 1)) (gN 3) w_Lplan_bricks_2) w_Lplan_bricks_t1) E δ := rfl
def w_Lplan_bricks : DTS := (wSeq (wSet 2 (mL (wLst wNil))) w_Lplan_bricks_s1)
theorem ln_Lplan_boxes : ∀ cs R, sp_Lplan_boxes cs R → cs.length = 2 := by
  intro cs R h
  unfold sp_Lplan_boxes at h
  repeat (obtain ⟨_, h⟩ := h)
  subst_vars; rfl
theorem ln_Lplan_bricks : ∀ cs R, sp_Lplan_bricks cs R → cs.length = 2 := by
  intro cs R h
  unfold sp_Lplan_bricks at h
  repeat (obtain ⟨_, h⟩ := h)
  subst_vars; rfl
end TW
set_option Elab.async false
set_option linter.all false
set_option maxRecDepth 100000
set_option maxHeartbeats 4000000
namespace TW
open PySem PySem.Spec PyProof.Rows L2 DL
/-- boxes are not beyond all bounds -/
theorem boxes_bd {ks : List (List Int)} {n : Nat} (hk : Kd n ks) : ∀ (rs : List Row) (bs : List (List Int)) (m : Int), 10 ^ 12 ≤ m → (∀ b ∈ bs, b.length = n ∧ In m b) → ValidR ks n bs rs → ∀ b ∈ boxesR ks bs rs, b.length = n ∧ In (m * 2 ^ rs.length) b
  | [], bs, m, _, h, _, b, hb => by
    rw [List.length_nil, Int.pow_zero, Int.mul_one]; exact h b hb
  | r :: rs, bs, m, hm, h, v, b, hb => by
    have e : m * 2 ^ (r :: rs).length = (2 * m) * 2 ^ rs.length := by
      rw [List.length_cons, Int.pow_succ, Int.mul_comm (2 ^ rs.length) 2, ← Int.mul_assoc, Int.mul_comm m 2]
    rw [e]
    have bm : Bm n m bs := ⟨h⟩
    refine boxes_bd hk rs (bs ++ [boxR ks bs r]) (2 * m) (by omega) (fun x hx => ?_) v.2 b hb
    rcases List.mem_append.mp hx with q | q
    · obtain ⟨h1, h2⟩ := h x q
      exact ⟨h1, fun y hy => by have := h2 y hy; omega⟩
    · rw [List.mem_singleton.mp q]
      have g := v.1.1
      cases r with
      | one k =>
        obtain ⟨_, l1, b1⟩ := hk.at (i := k) g
        exact ⟨l1, fun y hy => by have := b1 y hy; omega⟩
      | two ax i j =>
        obtain ⟨hx, hi, hj⟩ := g
        obtain ⟨_, l1, b1⟩ := bm.at hi
        obtain ⟨_, l2, b2⟩ := bm.at hj
        have c1 := b1 _ (gi_mem (show ax < (bxOf bs i).length by omega))
        have c2 := b2 _ (gi_mem (show ax < (bxOf bs j).length by omega))
        exact ⟨by show ((bxOf bs i).set ax _).length = n; rw [List.length_set]; exact l1, In.set (fun y hy => by have := b1 y hy; omega) (by omega) (by omega)⟩
theorem Pl.bs {n : Nat} {ks : List (List Int)} {rs : List Row} (h : Pl n ks rs) (m : Nat) : Bs n (boxesR ks [] (rs.take m)) := by
  obtain ⟨hk, hv, _, hl⟩ := h
  have q := boxes_bd hk (rs.take m) [] (10 ^ 12) (Int.le_refl _) (by simp) (valid_take hv m)
  have le : (10 ^ 12 : Int) * 2 ^ (rs.take m).length ≤ 10 ^ 400 := by
    have : (rs.take m).length ≤ 1100 := by rw [List.length_take]; omega
    have p : (2 : Int) ^ (rs.take m).length ≤ 2 ^ 1100 := by
      have q := Nat.pow_le_pow_right (show 0 < 2 by decide) this
      have q2 : ((2 ^ (rs.take m).length : Nat) : Int) ≤ ((2 ^ 1100 : Nat) : Int) := Int.ofNat_le.mpr q
      rw [Int.natCast_pow, Int.natCast_pow] at q2
      exact q2
    have p2 : (10 ^ 12 : Int) * 2 ^ 1100 ≤ 10 ^ 400 := by decide +kernel
    have := Int.mul_le_mul_of_nonneg_left p (show (0 : Int) ≤ 10 ^ 12 by decide)
    exact Int.le_trans this p2
  exact ⟨fun b hb => (q b hb).1, fun b hb x hx => by have := (q b hb).2 x hx; exact ⟨this.1, Int.le_trans this.2 le⟩⟩
theorem take_snoc {rs : List Row} {d : Nat} (h : d < rs.length) : rs.take (d + 1) = rs.take d ++ [rs.getD d (.one 0)] := by
  rw [List.take_succ, List.getElem?_eq_getElem h, List.getD_eq_getElem?_getD, List.getElem?_eq_getElem h]; rfl
theorem Pl.row {n : Nat} {ks : List (List Int)} {rs : List Row} (h : Pl n ks rs) {d : Nat} (hd : d < rs.length) : RowGood ks.length n (boxesR ks [] (rs.take d)) (rs.getD d (.one 0)) ∧ (boxesR ks [] (rs.take d)).length = d := by
  have v := valid_take h.2.1 (d + 1)
  rw [take_snoc hd, valid_app] at v
  refine ⟨v.2.1, ?_⟩
  rw [boxesR_len, List.length_take]; simp; omega
theorem rows_map (rs : List Row) : rs.map Row.d = (List.range rs.length).map fun i => (rs.getD i (.one 0)).d := by
  apply List.ext_getElem?
  intro i
  by_cases h : i < rs.length
  · have e : rs.getD i (.one 0) = rs[i] := by rw [List.getD_eq_getElem?_getD, List.getElem?_eq_getElem h]; rfl
    rw [List.getElem?_map, List.getElem?_map, List.getElem?_range h, List.getElem?_eq_getElem h]
    show some _ = some (rs.getD i (.one 0)).d
    rw [e]
  · rw [List.getElem?_eq_none (by simp; omega), List.getElem?_eq_none (by simp; omega)]
theorem lT_get {bs : List (List Int)} {i : Nat} (h : i < bs.length) : bs[i]? = some (bxOf bs i) := by
  unfold bxOf; rw [List.getD_eq_getElem?_getD, List.getElem?_eq_getElem h]; rfl
theorem rd_Lplan_boxes : ∀ cs R, sp_Lplan_boxes cs R → w_Lplan_boxes (endsOf cs R) (start0 4 cs) := by
  rintro _ R ⟨n, ks, rs, rfl, h, hR⟩
  simp -implicitDefEqProofs -dsimp [w_Lplan_boxes]
  intro a
  rw [rows_map]
  refine for_plain (List.range rs.length) _ rfl (fun rest δ => ∃ (d : Nat) (c3 : Cell), d + rest.length = rs.length ∧ rest = List.range' d (rs.length - d) ∧ δ = [.d (ksD ks), .d (rowsD rs), .ol a (lT (boxesR ks [] (rs.take d))), c3]) ⟨0, _, by simp, by simp [List.range_eq_range'], rfl⟩ ?_ ?_
  · rintro δ ⟨d, c3, hd, _, rfl⟩
    have : d = rs.length := by simpa using hd
    subst this
    rw [List.take_length]
    revert hR
    generalize boxesR ks [] rs = bs
    intro hR
    (try simp -implicitDefEqProofs -dsimp)
    exact hR
  · rintro i rest δ ⟨d, c3, hd, hr, rfl⟩ K B T hK
    have hlt : d < rs.length := by simp at hd; omega
    rw [show rs.length - d = (rs.length - d - 1) + 1 by omega, List.range'_succ, List.cons.injEq] at hr
    obtain ⟨rfl, hr⟩ := hr
    obtain ⟨g, lb⟩ := h.row hlt
    have e1 : boxesR ks [] (rs.take (i + 1)) = boxesR ks [] (rs.take i) ++ [boxR ks (boxesR ks [] (rs.take i)) (rs.getD i (.one 0))] := by rw [take_snoc hlt, boxesR_app]; rfl
    have hb := h.bs i
    obtain ⟨r, hr1⟩ : ∃ r, rs.getD i (.one 0) = r := ⟨_, rfl⟩
    obtain ⟨bs, hbs⟩ : ∃ bs, boxesR ks [] (rs.take i) = bs := ⟨_, rfl⟩
    rw [hr1, hbs] at g e1
    rw [hbs] at lb hb
    rw [hr1, hbs]
    have l1 := h.2.2.2
    have n1 := h.1.n1
    have fin : ∀ c3, K [.d (ksD ks), .d (rowsD rs), .ol a (lT bs ++ [tI (boxR ks bs r)]), c3] := fun c3 => hK _ ⟨i + 1, c3, by simp at hd; omega, by rw [hr]; congr 1, by rw [e1, ← lT_app]⟩
    cases r with
    | one k =>
      obtain ⟨ek, _, _⟩ := h.1.at (i := k) g.1
      simp -implicitDefEqProofs -dsimp [w_Lplan_boxes_1, Row.d, ek]
      exact ⟨⟨a, _, rfl⟩, by omega, fin _⟩
    | two ax i1 j1 =>
      obtain ⟨⟨hx, hi1, hj1⟩, ga⟩ := g
      have ag := ga ax i1 j1 rfl
      obtain ⟨x1, y1, _⟩ := hb.at hi1
      obtain ⟨x2, y2, _⟩ := hb.at hj1
      simp -implicitDefEqProofs -dsimp [w_Lplan_boxes_1, Row.d, x1, x2]
      refine ⟨⟨a, _, rfl⟩, ask_of (sp := sp_Lput) ⟨_, _, ax, rfl, by omega, by omega, by omega, ?_⟩⟩
      rw [if_pos ag]
      (try simp -implicitDefEqProofs -dsimp)
      exact ⟨by omega, fin _⟩
theorem get_last {bs : List (List Int)} {m : Nat} (h : bs.length = m) (h0 : 0 < m) : bs.getLast? = some (bxOf bs (m - 1)) := by
  rw [List.getLast?_eq_getElem?, h]
  exact lT_get (by omega)
theorem cntsR_app (kn : Nat) : ∀ (xs ys : List Row) (bs : List (List Int)), cntsR kn bs (xs ++ ys) = cntsR kn (cntsR kn bs xs) ys
  | [], _, _ => rfl
  | x :: xs, ys, bs => cntsR_app kn xs ys _
theorem cntsR_len (kn : Nat) : ∀ (xs : List Row) (bs : List (List Int)), (cntsR kn bs xs).length = bs.length + xs.length
  | [], _ => rfl
  | x :: xs, bs => by
    show (cntsR kn (bs ++ [cntR kn bs x]) xs).length = _
    rw [cntsR_len kn xs]; simp; omega
theorem cntR_len (kn : Nat) (cs : List (List Int)) (r : Row) : (cntR kn cs r).length = kn := by cases r <;> simp [cntR]
theorem cntsR_each (kn : Nat) : ∀ (xs : List Row) (bs : List (List Int)), (∀ b ∈ bs, b.length = kn) → ∀ b ∈ cntsR kn bs xs, b.length = kn
  | [], _, h => h
  | x :: xs, bs, h => cntsR_each kn xs (bs ++ [cntR kn bs x]) fun b hb => by
    rcases List.mem_append.mp hb with q | q
    · exact h b q
    · rw [List.mem_singleton.mp q]; exact cntR_len _ _ _
theorem bx_len' {kn : Nat} {bs : List (List Int)} (h : ∀ b ∈ bs, b.length = kn) {i : Nat} (hi : i < bs.length) : (bxOf bs i).length = kn := h _ (List.mem_of_getElem? (lT_get hi))
theorem rd_Lplan_bricks : ∀ cs R, sp_Lplan_bricks cs R → w_Lplan_bricks (endsOf cs R) (start0 7 cs) := by
  rintro _ R ⟨n, ks, rs, rfl, h, hR⟩
  simp -implicitDefEqProofs -dsimp [w_Lplan_bricks]
  intro a
  rw [rows_map]
  refine for_plain (List.range rs.length) _ rfl (fun rest δ => ∃ (d : Nat) (c3 c4 c5 c6 : Cell), d + rest.length = rs.length ∧ rest = List.range' d (rs.length - d) ∧ δ = [.d (ksD ks), .d (rowsD rs), .ol a ((cntsR ks.length [] (rs.take d)).map fun p => .list (lI p)), c3, c4, c5, c6]) ⟨0, _, _, _, _, by simp, by simp [List.range_eq_range'], rfl⟩ ?_ ?_
  · rintro δ ⟨d, c3, c4, c5, c6, hd, _, rfl⟩
    have : d = rs.length := by simpa using hd
    subst this
    rw [List.take_length]
    have lb : (cntsR ks.length [] rs).length = rs.length := by rw [cntsR_len]; simp
    have l0 := h.2.2.1
    revert hR lb
    generalize cntsR ks.length [] rs = bs
    intro hR lb
    have al := get_last lb l0
    simp -implicitDefEqProofs -dsimp [w_Lplan_bricks_t1, al]
    exact hR
  · rintro i rest δ ⟨d, c3, c4, c5, c6, hd, hr, rfl⟩ K B T hK
    have hlt : d < rs.length := by simp at hd; omega
    rw [show rs.length - d = (rs.length - d - 1) + 1 by omega, List.range'_succ, List.cons.injEq] at hr
    obtain ⟨rfl, hr⟩ := hr
    obtain ⟨⟨g, _⟩, lb0⟩ := h.row hlt
    have ce := cntsR_each ks.length (rs.take i) [] (by simp)
    have lb : (cntsR ks.length [] (rs.take i)).length = i := by rw [cntsR_len, List.length_take]; simp; omega
    have e1 : cntsR ks.length [] (rs.take (i + 1)) = cntsR ks.length [] (rs.take i) ++ [cntR ks.length (cntsR ks.length [] (rs.take i)) (rs.getD i (.one 0))] := by rw [take_snoc hlt, cntsR_app]; rfl
    obtain ⟨r, hr1⟩ : ∃ r, rs.getD i (.one 0) = r := ⟨_, rfl⟩
    obtain ⟨bs, hbs⟩ : ∃ bs, cntsR ks.length [] (rs.take i) = bs := ⟨_, rfl⟩
    rw [hr1, lb0] at g
    rw [hr1, hbs] at e1
    rw [hbs] at lb ce
    rw [hr1, hbs]
    have l1 := h.2.2.2
    have k1 := h.1.l1
    have fin : ∀ c3 c4 c5 c6, K [.d (ksD ks), .d (rowsD rs), .ol a ((bs.map fun p => PyData.list (lI p)) ++ [.list (lI (cntR ks.length bs r))]), c3, c4, c5, c6] := fun c3 c4 c5 c6 => hK _ ⟨i + 1, c3, c4, c5, c6, by simp at hd; omega, by rw [hr]; congr 1, by rw [e1, List.map_append]; rfl⟩
    cases r with
    | one k =>
      simp -implicitDefEqProofs -dsimp [w_Lplan_bricks_2, w_Lplan_bricks_1, Row.d, nums_0]
      refine ⟨⟨a, _, rfl⟩, by omega, com_map (List.range ks.length) _ rfl (fun q => some (.int (if q = k then 1 else 0))) (fun q hq acc K2 hK2 => ?_) ?_⟩
      · (try simp -implicitDefEqProofs -dsimp)
        by_cases e : q = k
        · subst e
          simpa using hK2
        · have e2 : ¬ (q : Int) = (k : Int) := by omega
          simpa [e, e2] using hK2
      · have e0 : List.filterMap (fun q => some (PyData.int (if q = k then 1 else 0))) (List.range ks.length) = lI (cntR ks.length bs (.one k)) := by
          unfold lI cntR; rw [List.map_map]; simp [Function.comp_def]
        rw [e0]
        (try simp -implicitDefEqProofs -dsimp)
        exact ⟨by omega, fin _ _ _ _⟩
    | two ax i1 j1 =>
      obtain ⟨hx, hi1, hj1⟩ := g
      have x1 := lT_get (bs := bs) (i := i1) (by omega)
      have x2 := lT_get (bs := bs) (i := j1) (by omega)
      have y1 := bx_len' ce (i := i1) (by omega)
      have y2 := bx_len' ce (i := j1) (by omega)
      simp -implicitDefEqProofs -dsimp [w_Lplan_bricks_2, Row.d, x1, x2]
      rw [pairsD_zip, zip_gi (show (bxOf bs i1).length = (bxOf bs j1).length by omega), List.map_map, y1]
      refine ⟨⟨a, _, rfl⟩, com_map (List.range ks.length) _ rfl (fun q => some (.int (gi (bxOf bs i1) q + gi (bxOf bs j1) q))) (fun q hq acc K2 hK2 => ?_) ?_⟩
      · simp -implicitDefEqProofs -dsimp [Function.comp_def]
        exact hK2
      · have e0 : List.filterMap (fun q => some (PyData.int (gi (bxOf bs i1) q + gi (bxOf bs j1) q))) (List.range ks.length) = lI (cntR ks.length bs (.two ax i1 j1)) := by
          unfold lI cntR; rw [List.map_map]; simp [Function.comp_def]
        rw [e0]
        (try simp -implicitDefEqProofs -dsimp)
        exact ⟨by omega, fin _ _ _ _⟩
theorem wtsR_app : ∀ (xs ys : List Row) (ws : List Nat), wtsR ws (xs ++ ys) = wtsR (wtsR ws xs) ys
  | [], _, _ => rfl
  | x :: xs, ys, ws => wtsR_app xs ys _
theorem wtsR_ext : ∀ (xs : List Row) (ws : List Nat), ∃ t, wtsR ws xs = ws ++ t ∧ t.length = xs.length
  | [], ws => ⟨[], by simp [wtsR], rfl⟩
  | x :: xs, ws => by
    obtain ⟨t, e, l⟩ := wtsR_ext xs (ws ++ [wtR ws x])
    exact ⟨wtR ws x :: t, by show wtsR (ws ++ [wtR ws x]) xs = _; rw [e]; simp, by simp [l]⟩
/-- the weight of a row is told by those ahead -/
theorem wts_at {rs : List Row} {d : Nat} (h : d < rs.length) : (wtsR [] rs).getD d 0 = wtR (wtsR [] (rs.take d)) (rs.getD d (.one 0)) ∧ ∀ i, i < d → (wtsR [] (rs.take d)).getD i 0 = (wtsR [] rs).getD i 0 := by
  have e := wtsR_app (rs.take (d + 1)) (rs.drop (d + 1)) []
  rw [List.take_append_drop, take_snoc h, wtsR_app] at e
  obtain ⟨t0, e0, l0⟩ := wtsR_ext (rs.take d) []
  have l0 : t0.length = d := by rw [l0, List.length_take]; omega
  obtain ⟨t, e2, _⟩ := wtsR_ext (rs.drop (d + 1)) (wtsR (wtsR [] (rs.take d)) [rs.getD d (.one 0)])
  rw [e2] at e
  have e3 : wtsR (wtsR [] (rs.take d)) [rs.getD d (.one 0)] = wtsR [] (rs.take d) ++ [wtR (wtsR [] (rs.take d)) (rs.getD d (.one 0))] := rfl
  rw [e3] at e
  have ll : (wtsR [] (rs.take d)).length = d := by rw [e0]; simpa using l0
  refine ⟨?_, fun i hi => ?_⟩
  · rw [e, List.getD_eq_getElem?_getD, List.append_assoc, List.getElem?_append_right (by omega), ll, Nat.sub_self]; rfl
  · rw [e, List.getD_eq_getElem?_getD, List.getD_eq_getElem?_getD, List.append_assoc, List.getElem?_append_left (by omega)]
/-- what may wait -/
structure StOk (n : Nat) (rs : List Row) (st : List (Nat × List Int)) : Prop where
  ix : ∀ p ∈ st, p.1 < rs.length ∧ p.2.length = n
theorem srt_pl (L : List (Nat × List Int)) : W.AllAlike (L.map plD) ∧ W.Sortable (L.map plD) ∧ ∀ d ∈ L.map plD, d.depth ≤ 50 := by
  refine ⟨W.AllAlike.of fun p q => ?_, .inl fun d hd => ?_, fun d hd => ?_⟩
  · show W.alike (.tuple [.int _, .tuple (p.2.map .int)]) (.tuple [.int _, .tuple (q.2.map .int)]) = true
    simp [W.alike, W.alikeAll, W.alike_ints]
  · obtain ⟨p, hp, rfl⟩ := List.mem_map.mp hd
    exact ⟨_, _, rfl⟩
  · obtain ⟨p, hp, rfl⟩ := List.mem_map.mp hd
    have := W.depth_ints p.2
    show PyData.depth (.tuple [.int _, .tuple (p.2.map .int)]) ≤ 50
    simp [PyData.depth, PyData.depthAll, this]
/-- the row at an index and the boxes it stands on -/
theorem Pl.two {n : Nat} {ks : List (List Int)} {rs : List Row} (h : Pl n ks rs) {d ax i j : Nat} (hd : d < rs.length) (e : rs.getD d (.one 0) = .two ax i j) : ax < n ∧ i < d ∧ j < d ∧ (wtsR [] rs).getD d 0 = (wtsR [] rs).getD i 0 + (wtsR [] rs).getD j 0 + 1 := by
  obtain ⟨⟨g, _⟩, lb⟩ := h.row hd
  rw [e, lb] at g
  obtain ⟨g1, g2, g3⟩ := g
  obtain ⟨w1, w2⟩ := wts_at hd
  refine ⟨g1, g2, g3, ?_⟩
  rw [w1, e]
  show _ + _ + 1 = _
  rw [w2 i g2, w2 j g3]
theorem Pl.all {n : Nat} {ks : List (List Int)} {rs : List Row} (h : Pl n ks rs) : Bs n (boxesR ks [] rs) ∧ (boxesR ks [] rs).length = rs.length := by
  have := h.bs rs.length
  rw [List.take_length] at this
  exact ⟨this, by rw [boxesR_len]; simp⟩
end TW
set_option Elab.async false
set_option linter.all false
set_option maxRecDepth 100000
set_option maxHeartbeats 4000000
namespace TW
open PySem PySem.Spec PyProof.Rows L2 DL
def quoF (sides brick : List Int) : List Int := List.zipWith (fun s o => s / o) sides brick
def rowF (brick begin cell : List Int) : List Int := (List.range brick.length).map fun i => gi begin i + gi cell i * gi brick i
abbrev flD (fl : List (Nat × List Int)) : List PyData := fl.map fun p => atK p.1 p.2
/-- a filling -/
structure FL (ks : List (List Int)) (bx : List Int) (fl : List (Nat × List Int)) : Prop where
  fit : ∀ p ∈ fl, p.1 < ks.length ∧ Fits (bxOf ks p.1) bx p.2
  asc : fl.Pairwise fun p q => W.dataLt (atK p.1 p.2) (atK q.1 q.2) = true
  dis : fl.Pairwise fun p q => ∀ d, d ∈ covF (bxOf ks p.1) p.2 → d ∉ covF (bxOf ks q.1) q.2
  all : ∀ d ∈ cellsF bx, ∃ p ∈ fl, d ∈ covF (bxOf ks p.1) p.2
end TW
set_option Elab.async false
set_option linter.all false
set_option maxRecDepth 100000
set_option maxHeartbeats 4000000
namespace TW
open PySem PySem.Spec PyProof.Rows L2 DL
theorem alike_ints : ∀ {a b : List Int}, a.length = b.length → W.alikeAll (lI a) (lI b) = true
  | [], [], _ => by simp [W.alikeAll]
  | [], _ :: _, h => by simp at h
  | _ :: _, [], h => by simp at h
  | x :: a, y :: b, h => by
    have := alike_ints (a := a) (b := b) (by simpa using h)
    simp only [lI, List.map_cons, W.alikeAll, W.alike, Bool.true_and] at this ⊢
    exact this
theorem gi_quo {sides brick : List Int} {i : Nat} (hs : i < sides.length) (hb : i < brick.length) : gi (quoF sides brick) i = gi sides i / gi brick i := by
  unfold gi quoF
  rw [List.getElem?_zipWith, List.getElem?_eq_getElem hs, List.getElem?_eq_getElem hb]
  rfl
/-- without twins, what is sorted goes up -/
theorem sort_strict {L : List PyData} (ha : W.AllAlike L) (hn : L.Nodup) : (sortD L).Pairwise fun a b => W.dataLt a b = true := by
  have p : (sortD L).Perm L := List.mergeSort_perm _ _
  have n2 : (sortD L).Nodup := p.nodup_iff.mpr hn
  have both := (sort_pw L).and n2
  refine both.imp_of_mem fun {a b} ma mb h => ?_
  obtain ⟨h1, h2⟩ := h
  apply Classical.byContradiction
  intro c
  have l2 : leD b a = true := by
    show (!W.dataLt a b) = true
    simpa using c
  exact h2 (leD_anti (ha _ (p.mem_iff.mp ma) _ (p.mem_iff.mp mb)) h1 l2)
theorem gi_row {b begin c : List Int} {i : Nat} (h : i < b.length) : gi (rowF b begin c) i = gi begin i + gi c i * gi b i := by
  unfold rowF
  exact gi_range h
theorem row_fit {b begin sides c : List Int} (l1 : sides.length = b.length) (hb : ∀ x ∈ b, 1 ≤ x) (hc : c ∈ cellsF (quoF sides b)) {i : Nat} (hi : i < b.length) :
    gi begin i ≤ gi (rowF b begin c) i ∧ gi (rowF b begin c) i + gi b i ≤ gi begin i + gi sides i := by
  have lq : (quoF sides b).length = b.length := by unfold quoF; simp [l1]
  obtain ⟨_, m⟩ := (mem_cells _ _ rfl c).mp hc
  have q := m i (by omega)
  rw [gi_quo (by omega) hi] at q
  have b1 := hb _ (gi_mem hi)
  rw [gi_row hi]
  have f := (floor_bd (gi sides i) b1).1
  have p1 := Int.mul_le_mul_of_nonneg_right (show gi c i + 1 ≤ gi sides i / gi b i by omega) (show 0 ≤ gi b i by omega)
  have p2 := Int.mul_nonneg q.1 (show 0 ≤ gi b i by omega)
  rw [Int.add_mul] at p1
  omega
theorem row_len {b begin c : List Int} : (rowF b begin c).length = b.length := by simp [rowF]
theorem row_cov {b begin sides d : List Int} (l1 : sides.length = b.length) (hb : ∀ x ∈ b, 1 ≤ x) (dv : ∀ i, i < b.length → gi b i ∣ gi sides i) (ld : d.length = b.length) (hd : ∀ i, i < b.length → gi begin i ≤ gi d i ∧ gi d i < gi begin i + gi sides i) :
    ∃ c ∈ cellsF (quoF sides b), d ∈ covF b (rowF b begin c) := by
  have lq : (quoF sides b).length = b.length := by unfold quoF; simp [l1]
  have g : ∀ i, i < b.length → gi ((List.range b.length).map fun i => (gi d i - gi begin i) / gi b i) i = (gi d i - gi begin i) / gi b i := fun i hi => gi_range hi
  refine ⟨(List.range b.length).map fun i => (gi d i - gi begin i) / gi b i, (mem_cells _ _ rfl _).mpr ⟨by simp [lq], fun i hi => ?_⟩, (mem_cov (by rw [row_len])).mpr ⟨ld, fun i hi => ?_⟩⟩
  · have hi : i < b.length := by omega
    have b1 := hb _ (gi_mem hi)
    have h := hd i hi
    rw [g i hi, gi_quo (by omega) hi]
    refine ⟨Int.ediv_nonneg (by omega) (by omega), ?_⟩
    obtain ⟨k, hk⟩ := dv i hi
    rw [hk, Int.mul_ediv_cancel_left _ (by omega)]
    refine Int.ediv_lt_of_lt_mul (by omega) ?_
    rw [Int.mul_comm k]
    omega
  · have b1 := hb _ (gi_mem hi)
    rw [gi_row hi, g i hi]
    have f := floor_bd (gi d i - gi begin i) b1
    omega
theorem row_uniq {b begin c c' d : List Int} (hb : ∀ x ∈ b, 1 ≤ x) (l1 : c.length = b.length) (l2 : c'.length = b.length) (h1 : d ∈ covF b (rowF b begin c)) (h2 : d ∈ covF b (rowF b begin c')) : c = c' := by
  obtain ⟨_, m1⟩ := (mem_cov (by rw [row_len])).mp h1
  obtain ⟨_, m2⟩ := (mem_cov (by rw [row_len])).mp h2
  refine gi_ext (by omega) fun i hi => ?_
  have hi : i < b.length := by omega
  have b1 := hb _ (gi_mem hi)
  have a1 := m1 i hi
  have a2 := m2 i hi
  rw [gi_row hi] at a1 a2
  have e1 := floor_eq (x := gi d i - gi begin i) (c := gi c i * gi b i) b1 (by rw [Int.mul_ediv_cancel _ (by omega)]) (by omega) (by omega)
  have e2 := floor_eq (x := gi d i - gi begin i) (c := gi c' i * gi b i) b1 (by rw [Int.mul_ediv_cancel _ (by omega)]) (by omega) (by omega)
  exact Int.eq_of_mul_eq_mul_right (by omega) (e1.symm.trans e2)
/-- both parts of a box -/
def flRows (k : Nat) (b begin sides : List Int) : List (Nat × List Int) := (cellsF (quoF sides b)).map fun c => (k, rowF b begin c)
theorem rows_dis {k : Nat} {b begin sides : List Int} (ks : List (List Int)) (hk : bxOf ks k = b) (l1 : sides.length = b.length) (hb : ∀ x ∈ b, 1 ≤ x) :
    (flRows k b begin sides).Pairwise fun p q => ∀ d, d ∈ covF (bxOf ks p.1) p.2 → d ∉ covF (bxOf ks q.1) q.2 := by
  unfold flRows
  rw [List.pairwise_map]
  have lq : (quoF sides b).length = b.length := by unfold quoF; simp [l1]
  have n := cells_nodup (quoF sides b)
  have al := cells_lens _ (quoF sides b) rfl
  unfold List.Nodup at n
  revert n al
  generalize cellsF (quoF sides b) = L
  intro n al
  refine n.imp_of_mem fun {x y} mx my hne d h1 h2 => hne ?_
  rw [hk] at h1 h2
  exact row_uniq hb (by rw [al x mx, lq]) (by rw [al y my, lq]) h1 h2
theorem gi_rep0 {n i : Nat} (h : i < n) : gi (List.replicate n 0) i = 0 := by
  unfold gi
  rw [List.getElem?_replicate, if_pos h]; rfl
end TW
set_option Elab.async false
set_option linter.all false
set_option maxRecDepth 100000
set_option maxHeartbeats 4000000
namespace TW
open PySem PySem.Spec PyProof.Rows L2 DL
abbrev Pl1 := Nat × List Int
/-- a filling in any order -/
structure FL0 (ks : List (List Int)) (bx : List Int) (fl : List Pl1) : Prop where
  fit : ∀ p ∈ fl, p.1 < ks.length ∧ Fits (bxOf ks p.1) bx p.2
  dis : fl.Pairwise fun p q => ∀ d, d ∈ covF (bxOf ks p.1) p.2 → d ∉ covF (bxOf ks q.1) q.2
  all : ∀ d ∈ cellsF bx, ∃ p ∈ fl, d ∈ covF (bxOf ks p.1) p.2
theorem FL0.perm {ks : List (List Int)} {bx : List Int} {fl lo : List Pl1} (h : FL0 ks bx fl) (pm : lo.Perm fl) : FL0 ks bx lo :=
  ⟨fun r hr => h.fit r (pm.mem_iff.mp hr), (pm.pairwise_iff (fun {x y} h d h1 h2 => h d h2 h1)).mpr h.dis, fun d hd => by
    obtain ⟨r, hr, hm⟩ := h.all d hd
    exact ⟨r, pm.mem_iff.mpr hr, hm⟩⟩
theorem kin_at {ks : List (List Int)} {bx : List Int} (hk : Kin ks bx) {k : Nat} (h : k < ks.length) : (bxOf ks k).length = bx.length ∧ ∀ x ∈ bxOf ks k, 1 ≤ x := hk _ (bx_mem h)
theorem FL0.corner {ks : List (List Int)} {bx : List Int} {fl : List Pl1} (h : FL0 ks bx fl) (hk : Kin ks bx) {p : Pl1} (hp : p ∈ fl) : p.2 ∈ covF (bxOf ks p.1) p.2 := by
  obtain ⟨f1, f2⟩ := h.fit p hp
  obtain ⟨k1, k2⟩ := kin_at hk f1
  exact corner_in (by rw [f2.1, k1]) k2
theorem atK_inj {j k : Nat} {a b : List Int} (e : atK j a = atK k b) : j = k ∧ a = b := by
  unfold atK at e
  simp only [PyData.tuple.injEq, List.cons.injEq, PyData.int.injEq, and_true, tI] at e
  obtain ⟨e1, e2⟩ := e
  have e2 : lI a = lI b := e2
  have : a = b := by
    refine (List.map_inj_right ?_).mp e2
    intro a b h
    exact PyData.int.inj h
  exact ⟨by omega, this⟩
theorem flD_inj : ∀ {a b : List Pl1}, flD a = flD b → a = b
  | [], [], _ => rfl
  | [], _ :: _, h => by simp [flD] at h
  | _ :: _, [], h => by simp [flD] at h
  | x :: a, y :: b, h => by
    have h : atK x.1 x.2 :: flD a = atK y.1 y.2 :: flD b := h
    obtain ⟨h1, h2⟩ := List.cons.inj h
    obtain ⟨e1, e2⟩ := atK_inj h1
    rw [flD_inj h2, Prod.ext e1 e2]
theorem FL0.nodupD {ks : List (List Int)} {bx : List Int} {fl : List Pl1} (h : FL0 ks bx fl) (hk : Kin ks bx) : (flD fl).Nodup := by
  unfold List.Nodup flD
  rw [List.pairwise_map]
  refine h.dis.imp_of_mem fun {x y} mx my hd e => ?_
  obtain ⟨e1, e2⟩ := atK_inj e
  have e : x = y := Prod.ext e1 e2
  subst e
  exact hd _ (h.corner hk mx) (h.corner hk mx)
/-- in order -/
def srtF (fl : List Pl1) : List Pl1 := fl.mergeSort fun a b => leD (atK a.1 a.2) (atK b.1 b.2)
theorem srtF_perm (fl : List Pl1) : (srtF fl).Perm fl := List.mergeSort_perm _ _
theorem srtF_D (fl : List Pl1) : flD (srtF fl) = sortD (flD fl) := by
  unfold flD sortD srtF
  exact List.map_mergeSort fun a _ b _ => rfl
theorem FL0.sort {ks : List (List Int)} {bx : List Int} {fl : List Pl1} (h : FL0 ks bx fl) (hk : Kin ks bx) : FL ks bx (srtF fl) := by
  have h2 := h.perm (srtF_perm fl)
  refine ⟨h2.fit, ?_, h2.dis, h2.all⟩
  have := sort_strict (srt_pl fl).1 (h.nodupD hk)
  have this : (flD (srtF fl)).Pairwise fun a b => W.dataLt a b = true := by rw [srtF_D]; exact this
  unfold flD at this
  rwa [List.pairwise_map] at this
theorem lt_le {a b : PyData} (h : W.dataLt a b = true) : leD a b = true := by
  show (!W.dataLt b a) = true
  cases h2 : W.dataLt b a with
  | false => rfl
  | true =>
    have := lex_trans (O := itemOrd) _ _ _ h h2
    rw [lex_irrefl] at this; cases this
/-- sorted once is sorted -/
theorem FL.sorted {ks : List (List Int)} {bx : List Int} {fl : List Pl1} (h : FL ks bx fl) : sortD (flD fl) = flD fl := by
  unfold sortD
  refine List.mergeSort_of_pairwise ?_
  unfold flD
  rw [List.pairwise_map]
  exact h.asc.imp fun {a b} h => lt_le h
theorem FL.unique {ks ks' : List (List Int)} {bx bx' : List Int} {fl fl' : List Pl1} (h : FL ks bx fl) (h' : FL ks' bx' fl') (pm : fl.Perm fl') : fl = fl' := by
  refine flD_inj ?_
  rw [← h.sorted, ← h'.sorted]
  exact sort_perm (srt_pl fl).1 (pm.map _)
theorem nodup_le : ∀ {l m : List (List Int)}, l.Nodup → (∀ x ∈ l, x ∈ m) → l.length ≤ m.length
  | [], m, _, _ => by simp
  | x :: l, m, hn, h => by
    obtain ⟨n1, n2⟩ := List.nodup_cons.mp hn
    have hx := h x (by simp)
    have := nodup_le (l := l) (m := m.erase x) n2 fun y hy => by
      have ne : y ≠ x := fun e => n1 (by rw [← e]; exact hy)
      exact (List.mem_erase_of_ne ne).mpr (h y (by simp [hy]))
    rw [List.length_erase_of_mem hx] at this
    have := List.length_pos_of_mem hx
    simp; omega
theorem FL0.len {ks : List (List Int)} {bx : List Int} {fl : List Pl1} (h : FL0 ks bx fl) (hk : Kin ks bx) : fl.length ≤ (cellsF bx).length := by
  have := nodup_le (l := fl.map (·.2)) (m := cellsF bx) (by
    unfold List.Nodup
    rw [List.pairwise_map]
    refine h.dis.imp_of_mem fun {x y} mx my hd e => ?_
    have c1 := h.corner hk mx
    have c2 := h.corner hk my
    rw [← e] at c2
    exact hd _ c1 (by rw [← e]; exact c2)) fun c hc => by
    obtain ⟨p, hp, rfl⟩ := List.mem_map.mp hc
    obtain ⟨f1, f2⟩ := h.fit p hp
    exact fits_in (kin_at hk f1).1 f2 (h.corner hk hp)
  rwa [List.length_map] at this
def movA (ax : Nat) (z : Int) (p : Pl1) : Pl1 := (p.1, p.2.set ax (gi p.2 ax + z))
theorem cov_movA {b c d : List Int} {ax : Nat} {z : Int} (h : c.length = b.length) (hx : ax < b.length) : d ∈ covF b (c.set ax (gi c ax + z)) ↔ d.length = b.length ∧ d.set ax (gi d ax - z) ∈ covF b c := by
  rw [mem_cov (by simpa using h), mem_cov h]
  constructor
  · rintro ⟨h1, h2⟩
    refine ⟨h1, by simpa using h1, fun i hi => ?_⟩
    have := h2 i hi
    rw [gi_set (by omega)] at this ⊢
    split at this
    · rename_i e; rw [if_pos e]; subst e; omega
    · rename_i e; rw [if_neg e]; omega
  · rintro ⟨h1, _, h2⟩
    refine ⟨h1, fun i hi => ?_⟩
    have := h2 i hi
    rw [gi_set (by omega)] at this ⊢
    split at this
    · rename_i e; rw [if_pos e]; subst e; omega
    · rename_i e; rw [if_neg e]; omega
theorem gi_set_eq {l : List Int} {ax : Nat} {y : Int} (h : ax < l.length) : gi (l.set ax y) ax = y := by rw [gi_set h, if_pos rfl]
theorem gi_set_ne {l : List Int} {ax i : Nat} {y : Int} (h : i < l.length) (hn : i ≠ ax) : gi (l.set ax y) i = gi l i := by rw [gi_set h, if_neg hn]
/-- two filled boxes behind one another -/
theorem FL0.put {ks : List (List Int)} {bx : List Int} {ax : Nat} {z m : Int} {f1 f2 : List Pl1} (hk : Kin ks bx) (hx : ax < bx.length) (z0 : 0 ≤ z) (m0 : 0 ≤ m) (h1 : FL0 ks (bx.set ax z) f1) (h2 : FL0 ks (bx.set ax m) f2) :
    FL0 ks (bx.set ax (z + m)) (f1 ++ f2.map (movA ax z)) := by
  have k1 := fun {k} h => kin_at (k := k) hk h
  refine ⟨fun p hp => ?_, List.pairwise_append.mpr ⟨h1.dis, ?_, fun x hxm y hym d d1 d2 => ?_⟩, fun d hd => ?_⟩
  · rcases List.mem_append.mp hp with q | q
    · obtain ⟨a, b, c⟩ := h1.fit p q
      refine ⟨a, by simpa using b, fun i hi => ?_⟩
      have hi2 : i < bx.length := by simpa using hi
      have := c i (by simpa using hi)
      by_cases e : i = ax
      · subst e
        rw [gi_set_eq hi2] at this ⊢
        omega
      · rw [gi_set_ne hi2 e] at this ⊢
        omega
    · obtain ⟨r, hr, rfl⟩ := List.mem_map.mp q
      obtain ⟨a, b, c⟩ := h2.fit r hr
      have bl : r.2.length = bx.length := by simpa using b
      refine ⟨a, by simpa [movA] using bl, fun i hi => ?_⟩
      have hi2 : i < bx.length := by simpa using hi
      have := c i (by simpa using hi)
      show 0 ≤ gi (r.2.set ax (gi r.2 ax + z)) i ∧ gi (r.2.set ax (gi r.2 ax + z)) i + gi (bxOf ks r.1) i ≤ _
      by_cases e : i = ax
      · subst e
        rw [gi_set_eq hi2] at this ⊢
        rw [gi_set_eq (by omega)]
        omega
      · rw [gi_set_ne hi2 e] at this ⊢
        rw [gi_set_ne (by omega) e]
        omega
  · rw [List.pairwise_map]
    refine h2.dis.imp_of_mem fun {x y} mx my hd d d1 d2 => ?_
    obtain ⟨a, b, c⟩ := h2.fit x mx
    obtain ⟨a', b', c'⟩ := h2.fit y my
    have d1 : d ∈ covF (bxOf ks x.1) (x.2.set ax (gi x.2 ax + z)) := d1
    have d2 : d ∈ covF (bxOf ks y.1) (y.2.set ax (gi y.2 ax + z)) := d2
    have l1 : x.2.length = bx.length := by simpa using b
    have l2 : y.2.length = bx.length := by simpa using b'
    rw [cov_movA (by rw [l1, (k1 a).1]) (by rw [(k1 a).1]; exact hx)] at d1
    rw [cov_movA (by rw [l2, (k1 a').1]) (by rw [(k1 a').1]; exact hx)] at d2
    exact hd _ d1.2 d2.2
  · obtain ⟨r, hr, rfl⟩ := List.mem_map.mp hym
    obtain ⟨a, b, c⟩ := h1.fit x hxm
    obtain ⟨a', b', c'⟩ := h2.fit r hr
    have l1 : x.2.length = bx.length := by simpa using b
    have l2 : r.2.length = bx.length := by simpa using b'
    have d2 : d ∈ covF (bxOf ks r.1) (r.2.set ax (gi r.2 ax + z)) := d2
    have p1 := ((mem_cov (by rw [l1, (k1 a).1])).mp d1).2 ax (by rw [(k1 a).1]; exact hx)
    have p2 := ((mem_cov (by simp [l2, (k1 a').1])).mp d2).2 ax (by rw [(k1 a').1]; exact hx)
    rw [gi_set_eq (by omega)] at p2
    have q1 := c ax (by simpa using hx)
    have q2 := c' ax (by simpa using hx)
    rw [gi_set_eq hx] at q1
    omega
  · obtain ⟨dl, dm⟩ := (mem_cells _ _ rfl d).mp hd
    have dl : d.length = bx.length := by simpa using dl
    have dx := dm ax (by simpa using hx)
    rw [gi_set_eq hx] at dx
    have other : ∀ i, i < bx.length → i ≠ ax → 0 ≤ gi d i ∧ gi d i < gi bx i := fun i hi e => by
      have := dm i (by simpa using hi)
      rwa [gi_set_ne hi e] at this
    by_cases c : gi d ax < z
    · obtain ⟨p, hp, hm⟩ := h1.all d ((mem_cells _ _ rfl d).mpr ⟨by simpa using dl, fun i hi => by
        have hi2 : i < bx.length := by simpa using hi
        by_cases e : i = ax
        · subst e; rw [gi_set_eq hi2]; omega
        · rw [gi_set_ne hi2 e]; exact other i hi2 e⟩)
      exact ⟨p, List.mem_append.mpr (.inl hp), hm⟩
    · obtain ⟨p, hp, hm⟩ := h2.all (d.set ax (gi d ax - z)) ((mem_cells _ _ rfl _).mpr ⟨by simpa using dl, fun i hi => by
        have hi2 : i < bx.length := by simpa using hi
        by_cases e : i = ax
        · subst e; rw [gi_set_eq hi2, gi_set_eq (by omega)]; omega
        · rw [gi_set_ne hi2 e, gi_set_ne (by omega) e]; exact other i hi2 e⟩)
      obtain ⟨a, b, _⟩ := h2.fit p hp
      have l2 : p.2.length = bx.length := by simpa using b
      refine ⟨movA ax z p, List.mem_append.mpr (.inr (List.mem_map.mpr ⟨p, hp, rfl⟩)), ?_⟩
      show d ∈ covF (bxOf ks p.1) (p.2.set ax (gi p.2 ax + z))
      rw [cov_movA (by rw [l2, (k1 a).1]) (by rw [(k1 a).1]; exact hx)]
      exact ⟨by rw [(k1 a).1]; exact dl, hm⟩
theorem FL0.rows {ks : List (List Int)} {sides : List Int} {k : Nat} (hk : Kin ks sides) (h : k < ks.length) (hd : ∀ i, i < sides.length → gi (bxOf ks k) i ∣ gi sides i) : FL0 ks sides (flRows k (bxOf ks k) (List.replicate sides.length 0) sides) := by
  obtain ⟨l1, b1⟩ := kin_at hk h
  refine ⟨fun p hp => ?_, rows_dis ks rfl l1.symm b1, fun d hm => ?_⟩
  · obtain ⟨c, hc, rfl⟩ := List.mem_map.mp hp
    refine ⟨h, by rw [row_len, l1], fun i hi => ?_⟩
    have := row_fit (begin := List.replicate sides.length 0) l1.symm b1 hc (show i < (bxOf ks k).length by omega)
    rw [gi_rep0 hi] at this
    show 0 ≤ gi (rowF _ _ c) i ∧ gi (rowF _ _ c) i + gi (bxOf ks k) i ≤ _
    omega
  · obtain ⟨dl, dm⟩ := (mem_cells _ _ rfl d).mp hm
    obtain ⟨c, hc, hcv⟩ := row_cov (b := bxOf ks k) (begin := List.replicate sides.length 0) (sides := sides) (d := d) l1.symm b1 (fun i hi => hd i (by omega)) (by omega) fun i hi => by
      have := dm i (by omega)
      rw [gi_rep0 (by omega)]
      omega
    exact ⟨_, List.mem_map.mpr ⟨c, hc, rfl⟩, hcv⟩
def kindA (f : Nat → Nat) (p : Pl1) : Pl1 := (f p.1, p.2)
theorem FL0.kinds {ks ks' : List (List Int)} {bx : List Int} {f : Nat → Nat} {fl : List Pl1} (h : FL0 ks bx fl) (hf : ∀ k, k < ks.length → f k < ks'.length ∧ bxOf ks' (f k) = bxOf ks k) : FL0 ks' bx (fl.map (kindA f)) := by
  refine ⟨fun p hp => ?_, ?_, fun d hd => ?_⟩
  · obtain ⟨r, hr, rfl⟩ := List.mem_map.mp hp
    obtain ⟨a, b⟩ := h.fit r hr
    obtain ⟨c, e⟩ := hf _ a
    exact ⟨c, by show Fits (bxOf ks' (f r.1)) bx r.2; rw [e]; exact b⟩
  · rw [List.pairwise_map]
    refine h.dis.imp_of_mem fun {x y} mx my hd d d1 d2 => ?_
    have e1 := (hf _ (h.fit x mx).1).2
    have e2 := (hf _ (h.fit y my).1).2
    exact hd d (by rw [← e1]; exact d1) (by rw [← e2]; exact d2)
  · obtain ⟨r, hr, hm⟩ := h.all d hd
    exact ⟨kindA f r, List.mem_map.mpr ⟨r, hr, rfl⟩, by show d ∈ covF (bxOf ks' (f r.1)) r.2; rw [(hf _ (h.fit r hr).1).2]; exact hm⟩
theorem lx_lt : ∀ {a b : List Int}, a.length = b.length → lx a b → a < b
  | [], [], _, h => by simp [lx] at h
  | [], _ :: _, h, _ => by simp at h
  | _ :: _, [], h, _ => by simp at h
  | x :: a, y :: b, hl, h => by
    rw [List.cons_lt_cons_iff]
    rcases h with h | ⟨rfl, h⟩
    · exact .inl h
    · exact .inr ⟨rfl, lx_lt (by simpa using hl) h⟩
theorem lx_iff : ∀ {x y : List Int}, x.length = y.length → (lx x y ↔ ∃ i, i < x.length ∧ (∀ j, j < i → gi x j = gi y j) ∧ gi x i < gi y i)
  | [], [], _ => by simp [lx]
  | [], _ :: _, h => by simp at h
  | _ :: _, [], h => by simp at h
  | x :: a, y :: b, hl => by
    have ih := lx_iff (x := a) (y := b) (by simpa using hl)
    constructor
    · rintro (h | ⟨rfl, h⟩)
      · exact ⟨0, by simp, fun j hj => by omega, h⟩
      · obtain ⟨i, h1, h2, h3⟩ := ih.mp h
        refine ⟨i + 1, by simpa using h1, fun j hj => ?_, h3⟩
        cases j with
        | zero => rfl
        | succ j => exact h2 j (by omega)
    · rintro ⟨i, h1, h2, h3⟩
      cases i with
      | zero => exact .inl h3
      | succ i =>
        have h0 : x = y := h2 0 (by omega)
        exact .inr ⟨h0, ih.mpr ⟨i, by simpa using h1, fun j hj => h2 (j + 1) (by omega), h3⟩⟩
theorem lt_atK {k : Nat} {a b : List Int} (hl : a.length = b.length) (h : lx a b) : W.dataLt (atK k a) (atK k b) = true := by
  unfold atK
  have al : W.alike (tI a) (tI b) = true := by
    have := alike_ints hl
    unfold tI
    simpa [W.alike] using this
  rw [W.dataLt_pair (by simp [W.alike]) al, if_pos (by simp [PyData.eqv])]
  have ne : PyData.eqv (tI a) (tI b) = false := by
    cases e : PyData.eqv (tI a) (tI b) with
    | false => rfl
    | true =>
      have e2 := eq_of_eqv _ _ al e
      have e3 : a = b := (atK_inj (j := 0) (k := 0) (by unfold atK; rw [e2])).2
      subst e3
      exact (lx_ge h rfl fun i _ => Int.le_refl _).elim
  rw [ne, if_neg Bool.false_ne_true]
  unfold tI
  rw [W.dataLt_tuple]
  show W.rowLt (lI a) (lI b) = true
  unfold lI
  rw [W.dataLt_ints]
  exact decide_eq_true (lx_lt hl h)
theorem FL.rows {ks : List (List Int)} {sides : List Int} {k : Nat} (hk : Kin ks sides) (h : k < ks.length) (hd : ∀ i, i < sides.length → gi (bxOf ks k) i ∣ gi sides i) : FL ks sides (flRows k (bxOf ks k) (List.replicate sides.length 0) sides) := by
  have h0 := FL0.rows hk h hd
  obtain ⟨l1, b1⟩ := kin_at hk h
  refine ⟨h0.fit, ?_, h0.dis, h0.all⟩
  unfold flRows
  rw [List.pairwise_map]
  have so := cells_sorted (quoF sides (bxOf ks k))
  rw [← cells_eq] at so
  have lq : (quoF sides (bxOf ks k)).length = sides.length := by unfold quoF; simp [l1]
  have al := cells_lens _ (quoF sides (bxOf ks k)) rfl
  refine so.imp_of_mem fun {x y} mx my hxy => ?_
  have lx1 := al x mx
  have ly1 := al y my
  refine lt_atK (by rw [row_len, row_len]) ?_
  rw [lx_iff (by omega)] at hxy
  rw [lx_iff (by rw [row_len, row_len])]
  obtain ⟨i, h1, h2, h3⟩ := hxy
  refine ⟨i, by rw [row_len]; omega, fun j hj => ?_, ?_⟩
  · rw [gi_row (by omega), gi_row (by omega), h2 j hj]
  · rw [gi_row (by omega), gi_row (by omega)]
    have := b1 _ (gi_mem (show i < (bxOf ks k).length by omega))
    have := Int.mul_lt_mul_of_pos_right h3 (show 0 < gi (bxOf ks k) i by omega)
    omega
end TW
set_option Elab.async false
set_option linter.all false
set_option maxRecDepth 100000
set_option maxHeartbeats 4000000
namespace TW
open PySem PySem.Spec PyProof.Rows L2 DL
/-- a pair of n axes, sides up to m -/
structure Pq (n : Nat) (m : Int) (p q : List Int) : Prop where
  lp : p.length = n
  lq : q.length = n
  n0 : 0 < n
  n1 : n ≤ 4
  pp : ∀ x ∈ p, 1 ≤ x ∧ x ≤ m
  pq : ∀ x ∈ q, 1 ≤ x ∧ x ≤ m
/-- a box of n axes that is filled -/
structure Bo (n : Nat) (p q bx : List Int) : Prop where
  l : bx.length = n
  b : ∀ x ∈ bx, 1 ≤ x ∧ x ≤ 10 ^ 13
  f : Fill p q bx
end TW
set_option Elab.async false
set_option linter.all false
set_option maxRecDepth 100000
set_option maxHeartbeats 4000000
namespace TW
open PySem PySem.Spec PyProof.Rows L2 DL
end TW
set_option Elab.async false
set_option linter.all false
set_option maxRecDepth 100000
set_option maxHeartbeats 4000000
namespace TW
open PySem PySem.Spec PyProof.Rows L2 DL
end TW
set_option Elab.async false
set_option linter.all false
set_option maxRecDepth 100000
set_option maxHeartbeats 4000000
namespace TW
open PySem PySem.Spec PyProof.Rows L2 DL
end TW
set_option Elab.async false
set_option linter.all false
set_option maxRecDepth 100000
set_option maxHeartbeats 4000000
namespace TW
open PySem PySem.Spec PyProof.Rows L2 DL
/-- what the box's sides are made of -/
structure Ok (n : Nat) (c d : List Int) : Prop where
  p1 : ∀ i, i < n → 1 ≤ gi c i
  p2 : ∀ i, i < n → 1 ≤ gi d i
end TW
set_option Elab.async false
set_option linter.all false
set_option maxRecDepth 100000
set_option maxHeartbeats 4000000
namespace TW
open PySem PySem.Spec PyProof.Rows L2 DL
end TW
set_option Elab.async false
set_option linter.all false
set_option maxRecDepth 100000
set_option maxHeartbeats 4000000
namespace TW
open PySem PySem.Spec PyProof.Rows L2 DL
end TW
set_option Elab.async false
set_option linter.all false
set_option maxRecDepth 100000
set_option maxHeartbeats 4000000
namespace TW
open PySem PySem.Spec PyProof.Rows L2 DL
abbrev Dv (n : Nat) (p q : List Int) : Prop := ∀ i, i < n → gi p i ∣ gi q i
structure Br (n : Nat) (p : List Int) : Prop where
  l : p.length = n
  p : ∀ i, i < n → 1 ≤ gi p i
theorem Dv.le {n : Nat} {p q : List Int} (h : Dv n p q) (b : Br n q) {i : Nat} (hi : i < n) : gi p i ≤ gi q i := Int.le_of_dvd (by have := b.p i hi; omega) (h i hi)
theorem Dv.eq {n : Nat} {p q : List Int} (bp : Br n p) (bq : Br n q) (h : Dv n p q) (g : Dv n q p) : p = q := by
  refine gi_ext (by rw [bp.l, bq.l]) fun i hi => ?_
  rw [bp.l] at hi
  exact Int.le_antisymm (h.le bq hi) (g.le bp hi)
end TW
set_option Elab.async false
set_option linter.all false
set_option maxRecDepth 100000
set_option maxHeartbeats 4000000
namespace TW
open PySem PySem.Spec PyProof.Rows L2 DL
end TW
set_option Elab.async false
set_option linter.all false
set_option maxRecDepth 100000
set_option maxHeartbeats 4000000
namespace TW
open PySem PySem.Spec PyProof.Rows L2 DL
end TW
set_option Elab.async false
set_option linter.all false
set_option maxRecDepth 100000
set_option maxHeartbeats 4000000
namespace TW
open PySem PySem.Spec PyProof.Rows L2 DL
end TW
set_option Elab.async false
set_option linter.all false
set_option maxRecDepth 100000
set_option maxHeartbeats 4000000
namespace TW
open PySem PySem.Spec PyProof.Rows L2 DL
end TW
set_option Elab.async false
set_option linter.all false
set_option maxRecDepth 100000
set_option maxHeartbeats 4000000
namespace TW
open PySem PySem.Spec PyProof.Rows L2 DL
end TW
set_option Elab.async false
set_option linter.all false
set_option maxRecDepth 100000
set_option maxHeartbeats 4000000
namespace TW
open PySem PySem.Spec PyProof.Rows L2 DL
def keysN (l : List (Nat × Nat)) : List Nat := l.map (·.1)
/-- how many ways there are on from what is known -/
def wayT (w : Nat → Nat) (l : List (Nat × Nat)) : Nat := (l.map fun p => p.2 * w p.1).sum
end TW
set_option Elab.async false
set_option linter.all false
set_option maxRecDepth 100000
set_option maxHeartbeats 4000000
namespace TW
open PySem PySem.Spec PyProof.Rows L2 DL
structure KB (ks : List (List Int)) (bx : List Int) : Prop where
  l4 : ks.length ≤ 4
  l0 : 0 < bx.length
  lb : bx.length ≤ 4
  k : Kin ks bx
  b : ∀ x ∈ bx, 1 ≤ x
  v : vol bx ≤ 20
/-- what is known when all bricks with the first cells up to i are laid -/
structure KnOk (ms : List Nat) (V i N : Nat) (l : List (Nat × Nat)) : Prop where
  nd : (keysN l).Nodup
  lt : ∀ p ∈ l, p.1 < 2 ^ V
  lo : ∀ p ∈ l, ∀ j, j < i → p.1.testBit j = true
  way : wayT (fun m => nF ms ((2 ^ V - 1) ^^^ m)) l = N
end TW
set_option Elab.async false
set_option linter.all false
set_option maxRecDepth 100000
set_option maxHeartbeats 4000000
namespace TW
open PySem PySem.Spec PyProof.Rows L2 DL
/-- rows that are put together -/
def buR (a l : Addr) (rs : List Row) : Cell := .gx (.bu a l "Builder" "rows" (rs.map Row.d))
/-- a plan all of whose boxes are small enough -/
structure PlA (n : Nat) (ks : List (List Int)) (rs : List Row) : Prop where
  kd : Kd n ks
  va : ValidR ks n [] rs
  bd : ∀ b ∈ boxesR ks [] rs, b.length = n ∧ In (10 ^ 12) b
def bxR (ks : List (List Int)) (rs : List Row) (i : Nat) : List Int := bxOf (boxesR ks [] rs) i
def sp_Builder_init : DSp := fun cs R => ∃ x, cs = [.gx (.b0 x "Builder")] ∧ ∀ l, R .none [buR x l []]
def sp_Builder_add : DSp := fun cs R => ∃ a l rs, ∃ r : Row, cs = [buR a l rs, .d r.d] ∧ rs.length ≤ 100000 ∧ R (.int (rs.length : Int)) [buR a l (rs ++ [r]), .d r.d]
def fdD : Option Nat → PyData
  | none => .none
  | some k => .int (k : Int)
/-- what a turn makes of the rows and of what is found -/
def halfF (ax : Nat) (L : List Row) (j : Nat) (fo : Option Nat) (c : Int) : List Row × Option Nat := if c % 2 = 1 then (match fo with | none => (L, some j) | some k => (L ++ [.two ax k j], some L.length)) else (L, fo)
def repF (ax : Nat) : Nat → List Row → Nat → Option Nat → Int → List Row
  | 0, L, _, _, _ => L
  | n + 1, L, j, fo, c => if c ≤ 0 then L else if 0 < c / 2 then repF ax n ((halfF ax L j fo c).1 ++ [.two ax j j]) (halfF ax L j fo c).1.length (halfF ax L j fo c).2 (c / 2) else (halfF ax L j fo c).1
def repR (ax : Nat) (C : Int) (rs : List Row) : List Row := repF ax 40 rs (rs.length - 1) none C
/-- a block's rows -/
def blkR (k : Nat) (cn : List Int) (rs : List Row) : Nat → List Row
  | 0 => rs ++ [.one k]
  | i + 1 => repR i (gi cn i) (blkR k cn rs i)
def sp_Builder_repeated : DSp := fun cs R => ∃ a l n ks rs, ∃ ax : Nat, ∃ C : Int, cs = [buR a l rs, .d (.int (ax : Int)), .d (.int ((rs.length - 1 : Nat) : Int)), .d (.int C)] ∧ PlA n ks rs ∧ 0 < rs.length ∧ rs.length ≤ 5000 ∧ ax < n ∧ 1 ≤ C ∧ gi (bxR ks rs (rs.length - 1)) ax * C ≤ 10 ^ 12 ∧
  ∀ t, rs ++ t = repR ax C rs → PlA n ks (rs ++ t) → t.length ≤ 80 → bxR ks (rs ++ t) ((rs ++ t).length - 1) = (bxR ks rs (rs.length - 1)).set ax (gi (bxR ks rs (rs.length - 1)) ax * C) → R (.int (((rs ++ t).length - 1 : Nat) : Int)) [buR a l (rs ++ t), .d (.int (ax : Int)), .d (.int ((rs.length - 1 : Nat) : Int)), .d (.int C)]
def mulL (a c : List Int) : List Int := List.zipWith (· * ·) a c
def sp_Builder_block : DSp := fun cs R => ∃ a l n ks rs, ∃ k : Nat, ∃ cn : List Int, cs = [buR a l rs, .d (.int (k : Int)), .d (tI cn)] ∧ Kd n ks ∧ PlA n ks rs ∧ rs.length ≤ 1000 ∧ k < ks.length ∧ cn.length = n ∧ (∀ i, i < n → 1 ≤ gi cn i ∧ gi (bxOf ks k) i * gi cn i ≤ 10 ^ 12) ∧
  ∀ t, rs ++ t = blkR k cn rs n → 0 < t.length → PlA n ks (rs ++ t) → t.length ≤ 321 → bxR ks (rs ++ t) ((rs ++ t).length - 1) = mulL (bxOf ks k) cn → R (.int (((rs ++ t).length - 1 : Nat) : Int)) [buR a l (rs ++ t), .d (.int (k : Int)), .d (tI cn)]
def divL (bx b : List Int) : List Int := List.zipWith (· / ·) bx b
def sp_counts_in_k66 : DSp := fun cs R => ∃ b bx : List Int, cs = [.d (tI b), .d (tI bx)] ∧ b.length = bx.length ∧ bx.length ≤ 1000 ∧ (∀ x ∈ b, Pos x) ∧ R (if restsF b bx = [] then tI (divL bx b) else .none) cs
/-- the plan for a box -/
def planR (a b bx : List Int) : List Row :=
  if restsF a bx = [] then blkR 0 (divL bx a) [] bx.length
  else if restsF b bx = [] then blkR 1 (divL bx b) [] bx.length
  else
    let ax := (restsF a bx).headD 0
    let at_ := ((timesF (gi a ax) (gi b ax) (gi bx ax)).getD 0) * gi a ax
    let one := blkR 0 (divL (bx.set ax at_) a) [] bx.length
    let two := blkR 1 (divL (bx.set ax (gi bx ax - at_)) b) one bx.length
    two ++ [.two ax (one.length - 1) (two.length - 1)]
def sp_plan_for : DSp := fun cs R => ∃ a b bx, cs = [.d (prD a b), .d (tI bx)] ∧ PB a b bx ∧ bx.length ≤ 4 ∧ In (10 ^ 12) a ∧ In (10 ^ 12) b ∧ In (10 ^ 12) bx ∧ (fillB a b bx = false → R .none cs) ∧
  (fillB a b bx = true → ∀ rs, rs = planR a b bx → PlA bx.length [a, b] rs → 0 < rs.length → rs.length ≤ 1000 → bxR [a, b] rs (rs.length - 1) = bx → R (rowsD rs) cs)
def w_Builder_init : DTS := (wBuNew 0 "Builder" "rows")
def w_Builder_add_s1 : DTS := (wRet (wOp pSubB (wBuFn pLen 0 "Builder" "rows") (wC (.int 1))))
@[simp ↓] theorem w_Builder_add_s1_ap (E : DEnds) (δ : DS) : w_Builder_add_s1 E δ = (wRet (wOp pSubB (wBuFn pLen 0 "Builder" "rows") (wC (.int 1)))) E δ := rfl
def w_Builder_add : DTS := (wSeq (wBuApp 0 "Builder" "rows" (wVar 1)) w_Builder_add_s1)
def w_Builder_repeated_1 : DTS := (wSet 2 (mE (wMethM [true, false] "Builder" "add" sp_Builder_add (wVar 0) (wCons (wTup (wCons (wVar 1) (wCons (wVar 2) (wCons (wVar 2) wNil)))) wNil))))
def w_Builder_repeated_s1 : DTS := (wIf (wB (wOp pGt (wVar 3) (wC (.int 0)))) w_Builder_repeated_1 wNext)
@[simp ↓] theorem w_Builder_repeated_s1_ap (E : DEnds) (δ : DS) : w_Builder_repeated_s1 E δ = (wIf (wB (wOp pGt (wVar 3) (wC (.int 0)))) w_Builder_repeated_1 wNext) E δ := rfl
def w_Builder_repeated_2 : DTS := (wSet 4 (mE (wIfE (wB (wOp pIs (wVar 4) (wC .none))) (wVar 2) (wMethM [true, false] "Builder" "add" sp_Builder_add (wVar 0) (wCons (wTup (wCons (wVar 1) (wCons (wVar 4) (wCons (wVar 2) wNil)))) wNil)))))
def w_Builder_repeated_t1 : DTS := (wSeq (wAug 3 pIDiv (wC (.int 2))) w_Builder_repeated_s1)
def w_Builder_repeated_4 : DTS := (wSeq (wIf (wB (wOp pEq (wOp pMod (wVar 3) (wC (.int 2))) (wC (.int 1)))) w_Builder_repeated_2 wNext) w_Builder_repeated_t1)
def w_Builder_repeated_s2 : DTS := (wSeq (wWhile (wB (wOp pGt (wVar 3) (wC (.int 0)))) w_Builder_repeated_4) (wRet (wVar 4)))
@[simp ↓] theorem w_Builder_repeated_s2_ap (E : DEnds) (δ : DS) : w_Builder_repeated_s2 E δ = (wSeq (wWhile (wB (wOp pGt (wVar 3) (wC (.int 0)))) w_Builder_repeated_4) (wRet (wVar 4))) E δ := rfl
def w_Builder_repeated : DTS := (wSeq (wSet 4 (mE (wC .none))) w_Builder_repeated_s2)
def w_Builder_block_1 : DTS := (wSet 3 (mE (wMethM [true, false, false, false] "Builder" "repeated" sp_Builder_repeated (wVar 0) (wCons (wVar 4) (wCons (wVar 3) (wCons (wVar 5) wNil))))))
def w_Builder_block_s1 : DTS := (wSeq (wFor (iEnumD (wCons (wVar 2) wNil)) (gT (gsCons (gN 4) (gsCons (gN 5) gsNil))) w_Builder_block_1) (wRet (wVar 3)))
@[simp ↓] theorem w_Builder_block_s1_ap (E : DEnds) (δ : DS) : w_Builder_block_s1 E δ = (wSeq (wFor (iEnumD (wCons (wVar 2) wNil)) (gT (gsCons (gN 4) (gsCons (gN 5) gsNil))) w_Builder_block_1) (wRet (wVar 3))) E δ := rfl
def w_Builder_block : DTS := (wSeq (wSet 3 (mE (wMethM [true, false] "Builder" "add" sp_Builder_add (wVar 0) (wCons (wTup (wCons (wVar 1) wNil)) wNil)))) w_Builder_block_s1)
def w_counts_in_k66_t1 : DTS := (wRet (wFn pTupOf (wCons (wOfL (wComp (iZip2 (wCons (wVar 1) (wCons (wVar 0) wNil))) (gT (gsCons (gN 2) (gsCons (gN 3) gsNil))) tT (wOp pDiv (wVar 2) (wVar 3)) [2, 3])) wNil)))
def w_counts_in_k66 : DTS := (wSeq (wIf (wB (wFn pAny (wCons (wOfL (wComp (iZip2 (wCons (wVar 1) (wCons (wVar 0) wNil))) (gT (gsCons (gN 2) (gsCons (gN 3) gsNil))) tT (wOp pNe (wOp pMod (wVar 2) (wVar 3)) (wC (.int 0))) [2, 3])) wNil))) (wRet (wC .none)) wNext) w_counts_in_k66_t1)
def w_plan_for_s1 : DTS := (wRet (wBuFn pTupOf 2 "Builder" "rows"))
@[simp ↓] theorem w_plan_for_s1_ap (E : DEnds) (δ : DS) : w_plan_for_s1 E δ = (wRet (wBuFn pTupOf 2 "Builder" "rows")) E δ := rfl
def w_plan_for_s2 : DTS := (wSeq (wDrop (wMethM [true, false] "Builder" "add" sp_Builder_add (wVar 2) (wCons (wTup (wCons (wVar 5) (wCons (wVar 9) (wCons (wVar 10) wNil)))) wNil))) w_plan_for_s1)
@[simp ↓] theorem w_plan_for_s2_ap (E : DEnds) (δ : DS) : w_plan_for_s2 E δ = (wSeq (wDrop (wMethM [true, false] "Builder" "add" sp_Builder_add (wVar 2) (wCons (wTup (wCons (wVar 5) (wCons (wVar 9) (wCons (wVar 10) wNil)))) wNil))) w_plan_for_s1) E δ := rfl
def w_plan_for_s3 : DTS := (wSeq (wSet 10 (mE (wMethM [true, false, false] "Builder" "block" sp_Builder_block (wVar 2) (wCons (wC (.int 1)) (wCons (wCall [] sp_counts_in_k66 (wCons (wOp pIx (wVar 0) (wC (.int 1))) (wCons (wCall [] sp_Lwith (wCons (wVar 1) (wCons (wVar 5) (wCons (wOp pSubB (wOp pIx (wVar 1) (wVar 5)) (wVar 6)) wNil)))) wNil))) wNil))))) w_plan_for_s2)
@[simp ↓] theorem w_plan_for_s3_ap (E : DEnds) (δ : DS) : w_plan_for_s3 E δ = (wSeq (wSet 10 (mE (wMethM [true, false, false] "Builder" "block" sp_Builder_block (wVar 2) (wCons (wC (.int 1)) (wCons (wCall [] sp_counts_in_k66 (wCons (wOp pIx (wVar 0) (wC (.int 1))) (wCons (wCall [] sp_Lwith (wCons (wVar 1) (wCons (wVar 5) (wCons (wOp pSubB (wOp pIx (wVar 1) (wVar 5)) (wVar 6)) wNil)))) wNil))) wNil))))) w_plan_for_s2) E δ := rfl
def w_plan_for_s4 : DTS := (wSeq (wSet 9 (mE (wMethM [true, false, false] "Builder" "block" sp_Builder_block (wVar 2) (wCons (wC (.int 0)) (wCons (wCall [] sp_counts_in_k66 (wCons (wOp pIx (wVar 0) (wC (.int 0))) (wCons (wCall [] sp_Lwith (wCons (wVar 1) (wCons (wVar 5) (wCons (wVar 6) wNil)))) wNil))) wNil))))) w_plan_for_s3)
@[simp ↓] theorem w_plan_for_s4_ap (E : DEnds) (δ : DS) : w_plan_for_s4 E δ = (wSeq (wSet 9 (mE (wMethM [true, false, false] "Builder" "block" sp_Builder_block (wVar 2) (wCons (wC (.int 0)) (wCons (wCall [] sp_counts_in_k66 (wCons (wOp pIx (wVar 0) (wC (.int 0))) (wCons (wCall [] sp_Lwith (wCons (wVar 1) (wCons (wVar 5) (wCons (wVar 6) wNil)))) wNil))) wNil))))) w_plan_for_s3) E δ := rfl
def w_plan_for_s5 : DTS := (wSeq (wSet 6 (mE (wOp pMulT (wVar 8) (wOp pIx (wOp pIx (wVar 0) (wC (.int 0))) (wVar 5))))) w_plan_for_s4)
@[simp ↓] theorem w_plan_for_s5_ap (E : DEnds) (δ : DS) : w_plan_for_s5 E δ = (wSeq (wSet 6 (mE (wOp pMulT (wVar 8) (wOp pIx (wOp pIx (wVar 0) (wC (.int 0))) (wVar 5))))) w_plan_for_s4) E δ := rfl
def w_plan_for_s6 : DTS := (wSeq (wSet 8 (mE (wCall [] sp_least_times (wCons (wOp pIx (wOp pIx (wVar 0) (wC (.int 0))) (wVar 5)) (wCons (wOp pIx (wOp pIx (wVar 0) (wC (.int 1))) (wVar 5)) (wCons (wOp pIx (wVar 1) (wVar 5)) wNil)))))) w_plan_for_s5)
@[simp ↓] theorem w_plan_for_s6_ap (E : DEnds) (δ : DS) : w_plan_for_s6 E δ = (wSeq (wSet 8 (mE (wCall [] sp_least_times (wCons (wOp pIx (wOp pIx (wVar 0) (wC (.int 0))) (wVar 5)) (wCons (wOp pIx (wOp pIx (wVar 0) (wC (.int 1))) (wVar 5)) (wCons (wOp pIx (wVar 1) (wVar 5)) wNil)))))) w_plan_for_s5) E δ := rfl
def w_plan_for_s7 : DTS := (wRet (wBuFn pTupOf 2 "Builder" "rows"))
@[simp ↓] theorem w_plan_for_s7_ap (E : DEnds) (δ : DS) : w_plan_for_s7 E δ = (wRet (wBuFn pTupOf 2 "Builder" "rows")) E δ := rfl
def w_plan_for_1 : DTS := (wSeq (wDrop (wMethM [true, false, false] "Builder" "block" sp_Builder_block (wVar 2) (wCons (wVar 3) (wCons (wVar 4) wNil)))) w_plan_for_s7)
def w_plan_for_s8 : DTS := (wIf (wB (wOp pIsNot (wVar 4) (wC .none))) w_plan_for_1 wNext)
@[simp ↓] theorem w_plan_for_s8_ap (E : DEnds) (δ : DS) : w_plan_for_s8 E δ = (wIf (wB (wOp pIsNot (wVar 4) (wC .none))) w_plan_for_1 wNext) E δ := rfl
def w_plan_for_2 : DTS := (wSeq (wSet 4 (mE (wCall [] sp_counts_in_k66 (wCons (wOp pIx (wVar 0) (wVar 3)) (wCons (wVar 1) wNil))))) w_plan_for_s8)
def w_plan_for_t1 : DTS := (wSeq (wSet 5 (mE (wOp pIx (wOfL (wComp (iEnumD (wCons (wVar 1) wNil)) (gT (gsCons (gN 6) (gsCons (gN 7) gsNil))) (wB (wOp pNe (wOp pMod (wVar 7) (wOp pIx (wOp pIx (wVar 0) (wC (.int 0))) (wVar 6))) (wC (.int 0)))) (wVar 6) [6, 7])) (wC (.int 0))))) w_plan_for_s6)
def w_plan_for_s9 : DTS := (wSeq (wFor (iSeq (wTup (wCons (wC (.int 0)) (wCons (wC (.int 1)) wNil)))) (gN 3) w_plan_for_2) w_plan_for_t1)
@[simp ↓] theorem w_plan_for_s9_ap (E : DEnds) (δ : DS) : w_plan_for_s9 E δ = (wSeq (wFor (iSeq (wTup (wCons (wC (.int 0)) (wCons (wC (.int 1)) wNil)))) (gN 3) w_plan_for_2) w_plan_for_t1) E δ := rfl
def w_plan_for_t2 : DTS := (wSeq (wSet 2 (mMake0 "Builder" sp_Builder_init)) w_plan_for_s9)
def w_plan_for : DTS := (wSeq (wIf (wNot (wB (wCall [] sp_is_filled (wCons (wVar 0) (wCons (wVar 1) wNil))))) (wRet (wC .none)) wNext) w_plan_for_t2)
theorem ln_Builder_init : ∀ cs R, sp_Builder_init cs R → cs.length = 1 := by
  intro cs R h
  unfold sp_Builder_init at h
  repeat (obtain ⟨_, h⟩ := h)
  subst_vars; rfl
theorem ln_Builder_add : ∀ cs R, sp_Builder_add cs R → cs.length = 2 := by
  intro cs R h
  unfold sp_Builder_add at h
  repeat (obtain ⟨_, h⟩ := h)
  subst_vars; rfl
theorem ln_Builder_repeated : ∀ cs R, sp_Builder_repeated cs R → cs.length = 4 := by
  intro cs R h
  unfold sp_Builder_repeated at h
  repeat (obtain ⟨_, h⟩ := h)
  subst_vars; rfl
theorem ln_Builder_block : ∀ cs R, sp_Builder_block cs R → cs.length = 3 := by
  intro cs R h
  unfold sp_Builder_block at h
  repeat (obtain ⟨_, h⟩ := h)
  subst_vars; rfl
theorem ln_counts_in_k66 : ∀ cs R, sp_counts_in_k66 cs R → cs.length = 2 := by
  intro cs R h
  unfold sp_counts_in_k66 at h
  repeat (obtain ⟨_, h⟩ := h)
  subst_vars; rfl
theorem ln_plan_for : ∀ cs R, sp_plan_for cs R → cs.length = 2 := by
  intro cs R h
  unfold sp_plan_for at h
  repeat (obtain ⟨_, h⟩ := h)
  subst_vars; rfl
end TW
set_option Elab.async false
set_option linter.all false
set_option maxRecDepth 100000
set_option maxHeartbeats 4000000
namespace TW
open PySem PySem.Spec PyProof.Rows L2 DL
theorem PlA.len {n : Nat} {ks : List (List Int)} {rs : List Row} : (boxesR ks [] rs).length = rs.length := by rw [boxesR_len]; simp
theorem PlA.at {n : Nat} {ks : List (List Int)} {rs : List Row} (h : PlA n ks rs) {i : Nat} (hi : i < rs.length) : (boxesR ks [] rs)[i]? = some (bxR ks rs i) ∧ (bxR ks rs i).length = n ∧ In (10 ^ 12) (bxR ks rs i) := by
  have e := lT_get (bs := boxesR ks [] rs) (i := i) (by rw [boxesR_len]; simpa using hi)
  have m := h.bd _ (List.mem_of_getElem? e)
  exact ⟨e, m⟩
theorem bxR_old {ks : List (List Int)} {rs t : List Row} {i : Nat} (hi : i < rs.length) : bxR ks (rs ++ t) i = bxR ks rs i := by
  unfold bxR bxOf
  rw [boxesR_app]
  obtain ⟨u, e, _⟩ := boxesR_ext ks t (boxesR ks [] rs)
  rw [e, List.getD_eq_getElem?_getD, List.getD_eq_getElem?_getD, List.getElem?_append_left (by rw [boxesR_len]; simpa using hi)]
theorem boxes_snoc (ks : List (List Int)) (rs : List Row) (r : Row) : boxesR ks [] (rs ++ [r]) = boxesR ks [] rs ++ [boxR ks (boxesR ks [] rs) r] := by rw [boxesR_app]; rfl
theorem bxR_new (ks : List (List Int)) (rs : List Row) (r : Row) : bxR ks (rs ++ [r]) rs.length = boxR ks (boxesR ks [] rs) r := by
  unfold bxR bxOf
  rw [boxes_snoc, List.getD_eq_getElem?_getD, List.getElem?_append_right (by rw [boxesR_len]; simp), boxesR_len]
  simp
theorem PlA.snoc {n : Nat} {ks : List (List Int)} {rs : List Row} {r : Row} (h : PlA n ks rs) (g : RowGood ks.length n (boxesR ks [] rs) r) (hl : (boxR ks (boxesR ks [] rs) r).length = n) (hi : In (10 ^ 12) (boxR ks (boxesR ks [] rs) r)) : PlA n ks (rs ++ [r]) := by
  refine ⟨h.kd, (valid_app ks n rs [r] []).mpr ⟨h.va, g, trivial⟩, fun b hb => ?_⟩
  rw [boxes_snoc] at hb
  rcases List.mem_append.mp hb with hb | hb
  · exact h.bd b hb
  · rw [List.mem_singleton.mp hb]; exact ⟨hl, hi⟩
theorem PlA.one {n : Nat} {ks : List (List Int)} {rs : List Row} (h : PlA n ks rs) {k : Nat} (hk : k < ks.length) : PlA n ks (rs ++ [.one k]) := by
  have m := bx_mem hk
  exact h.snoc ⟨hk, fun _ _ _ e => by cases e⟩ (h.kd.len _ m) (h.kd.side _ m)
theorem PlA.two {n : Nat} {ks : List (List Int)} {rs : List Row} (h : PlA n ks rs) {ax i j : Nat} (hx : ax < n) (hi : i < rs.length) (hj : j < rs.length) (ag : agreeB (bxR ks rs i) (bxR ks rs j) ax = true) (sm : gi (bxR ks rs i) ax + gi (bxR ks rs j) ax ≤ 10 ^ 12) : PlA n ks (rs ++ [.two ax i j]) := by
  obtain ⟨_, l1, i1⟩ := h.at hi
  obtain ⟨_, l2, i2⟩ := h.at hj
  have g1 := i1 _ (gi_mem (i := ax) (by omega))
  have g2 := i2 _ (gi_mem (i := ax) (by omega))
  refine h.snoc ⟨⟨hx, by rw [boxesR_len]; simpa using hi, by rw [boxesR_len]; simpa using hj⟩, fun ax' i' j' e => by cases e; exact ag⟩ ?_ fun x hx' => ?_
  · show (putF (bxR ks rs i) (bxR ks rs j) ax).length = n
    unfold putF; simp [l1]
  · have hx' : x ∈ (bxR ks rs i).set ax (gi (bxR ks rs i) ax + gi (bxR ks rs j) ax) := hx'
    rcases List.mem_or_eq_of_mem_set hx' with q | q
    · exact i1 x q
    · rw [q]; exact ⟨by omega, sm⟩
theorem rd_Builder_init : ∀ cs R, sp_Builder_init cs R → w_Builder_init (endsOf cs R) (start0 1 cs) := by
  rintro _ R ⟨x, rfl, hR⟩
  simp -implicitDefEqProofs -dsimp [w_Builder_init]
  exact hR
theorem rd_Builder_add : ∀ cs R, sp_Builder_add cs R → w_Builder_add (endsOf cs R) (start0 2 cs) := by
  rintro _ R ⟨a, l, rs, r, rfl, hl, hR⟩
  unfold buR at hR ⊢
  simp -implicitDefEqProofs -dsimp [w_Builder_add]
  exact ⟨by omega, by simpa using hR⟩
theorem zip_any {b bx : List Int} (hl : b.length = bx.length) : ((bx.zip b).map fun p => !decide (p.1 % p.2 = 0)).any id = decide (restsF b bx ≠ []) := by
  rw [Bool.eq_iff_iff, List.any_map, List.any_eq_true, decide_eq_true_eq]
  constructor
  · rintro ⟨p, hp, e⟩
    obtain ⟨i, hi, rfl⟩ := List.mem_iff_getElem.mp hp
    rw [List.length_zip] at hi
    have : i ∈ restsF b bx := mem_rests.mpr ⟨by omega, by
      rw [List.getElem_zip] at e
      have e1 : gi bx i = bx[i]'(by omega) := by unfold gi; rw [List.getElem?_eq_getElem (by omega)]; rfl
      have e2 : gi b i = b[i]'(by omega) := by unfold gi; rw [List.getElem?_eq_getElem (by omega)]; rfl
      rw [e1, e2]
      simpa using e⟩
    intro z
    rw [z] at this
    cases this
  · intro h
    obtain ⟨i, hi⟩ := List.exists_mem_of_ne_nil _ h
    obtain ⟨h1, h2⟩ := mem_rests.mp hi
    refine ⟨(gi bx i, gi b i), ?_, by simpa using h2⟩
    rw [zip_gi hl.symm]
    exact List.mem_map.mpr ⟨i, List.mem_range.mpr h1, rfl⟩
theorem zip_div (bx b : List Int) : (bx.zip b).map (fun p => PyData.int (p.1 / p.2)) = lI (divL bx b) := by
  unfold divL lI
  rw [List.map_zipWith, List.zip, List.map_zipWith]
theorem rd_counts_in_k66 : ∀ cs R, sp_counts_in_k66 cs R → w_counts_in_k66 (endsOf cs R) (start0 4 cs) := by
  rintro _ R ⟨b, bx, rfl, hl, hn, hp, hR⟩
  have hz : ∀ p ∈ bx.zip b, Pos p.2 := fun p h => hp _ (List.of_mem_zip h).2
  simp -implicitDefEqProofs -dsimp [w_counts_in_k66]
  refine com_map (bx.zip b) (fun p => .tuple [.int p.1, .int p.2]) (by unfold lI; rw [pairsD_zip]) (fun p => some (.bool (!decide (p.1 % p.2 = 0)))) (fun p h acc K hK => ?_) ?_
  · have := hz p h
    unfold Pos at this
    (try simp -implicitDefEqProofs -dsimp)
    exact ⟨by omega, by simpa using hK⟩
  · rw [List.filterMap_eq_map']
    (try simp -implicitDefEqProofs -dsimp)
    have ea : anyTr ((bx.zip b).map fun a => !decide (a.1 % a.2 = 0)) = decide (restsF b bx ≠ []) := zip_any hl
    rw [ea]
    by_cases q : restsF b bx = []
    · rw [if_pos q] at hR
      rw [if_neg (by simp [q])]
      simp -implicitDefEqProofs -dsimp [w_counts_in_k66_t1]
      refine com_map (bx.zip b) (fun p => .tuple [.int p.1, .int p.2]) (by unfold lI; rw [pairsD_zip]) (fun p => some (.int (p.1 / p.2))) (fun p h acc K hK => ?_) ?_
      · have := hz p h
        have pl := this.div
        (try simp -implicitDefEqProofs -dsimp)
        exact ⟨pl, by simpa using hK⟩
      · rw [List.filterMap_eq_map', zip_div]
        (try simp -implicitDefEqProofs -dsimp)
        exact hR
    · rw [if_neg q] at hR
      rw [if_pos (by simp [q])]
      exact hR
theorem set_agree {B : List Int} {ax : Nat} (x y : Int) : agreeB (B.set ax x) (B.set ax y) ax = true := agree_iff.mpr fun k hk ne => by
  unfold gi
  rw [List.getElem?_set_ne (Ne.symm ne), List.getElem?_set_ne (Ne.symm ne)]
theorem set_put {B : List Int} {ax : Nat} (h : ax < B.length) (x y : Int) : putF (B.set ax x) (B.set ax y) ax = B.set ax (x + y) := by
  unfold putF
  rw [gi_set_eq h, gi_set_eq h, List.set_set]
theorem two_set {n : Nat} {ks : List (List Int)} {L : List Row} {B : List Int} {ax i j : Nat} {x y : Int} (h : PlA n ks L) (hx : ax < n) (hB : B.length = n) (hi : i < L.length) (hj : j < L.length) (e1 : bxR ks L i = B.set ax x) (e2 : bxR ks L j = B.set ax y) (sm : x + y ≤ 10 ^ 12) :
    PlA n ks (L ++ [.two ax i j]) ∧ bxR ks (L ++ [.two ax i j]) L.length = B.set ax (x + y) := by
  have hx' : ax < B.length := by omega
  refine ⟨h.two hx hi hj (by rw [e1, e2]; exact set_agree x y) (by rw [e1, e2, gi_set_eq hx', gi_set_eq hx']; exact sm), ?_⟩
  rw [bxR_new]
  show putF (bxR ks L i) (bxR ks L j) ax = _
  rw [e1, e2, set_put hx']
theorem pow_bd {e : Nat} {p C : Int} (hp : p = 2 ^ e) (hC : p ≤ C) (h : C ≤ 10 ^ 12) : e < 40 := by
  apply Decidable.byContradiction
  intro z
  have q : (2 : Nat) ^ 40 ≤ 2 ^ e := Nat.pow_le_pow_right (by decide) (by omega)
  have q2 : ((2 ^ 40 : Nat) : Int) ≤ ((2 ^ e : Nat) : Int) := Int.ofNat_le.mpr q
  rw [Int.natCast_pow, Int.natCast_pow] at q2
  have q3 : (((2 : Nat) : Int)) ^ 40 = 1099511627776 := by decide
  rw [q3] at q2
  have : ((2 : Nat) : Int) = 2 := rfl
  rw [this, ← hp] at q2
  omega
theorem rd_Builder_repeated : ∀ cs R, sp_Builder_repeated cs R → w_Builder_repeated (endsOf cs R) (start0 5 cs) := by
  rintro _ R ⟨a, l, n, ks, rs, ax, C, rfl, h, h0, hl, hx, hC, hb, hR⟩
  obtain ⟨B, hB⟩ : ∃ B, bxR ks rs (rs.length - 1) = B := ⟨_, rfl⟩
  obtain ⟨_, lB, iB⟩ := h.at (i := rs.length - 1) (by omega)
  rw [hB] at hb hR lB iB
  obtain ⟨g, hg⟩ : ∃ g, gi B ax = g := ⟨_, rfl⟩
  have g1 : 1 ≤ g := by rw [← hg]; exact (iB _ (gi_mem (by omega))).1
  rw [hg] at hb hR
  have C12 : C ≤ 10 ^ 12 := by
    have := Int.mul_le_mul_of_nonneg_right g1 (show 0 ≤ C by omega)
    omega
  have eB : B = B.set ax (g * 1) := by
    rw [Int.mul_one, ← hg]
    apply List.ext_getElem?
    intro i
    by_cases q : ax = i
    · subst q
      rw [List.getElem?_set_self (by omega), ← gi_at (by omega)]
    · rw [List.getElem?_set_ne q]
  unfold buR at hR ⊢
  simp -implicitDefEqProofs -dsimp [w_Builder_repeated]
  refine while_plain (fun m δ => ∃ (L t : List Row) (c : Int) (j : Nat) (fo : Option Nat), δ = [.gx (.bu a l "Builder" "rows" (L.map Row.d)), .d (.int (ax : Int)), .d (.int (j : Int)), .d (.int c), .d (fdD fo)] ∧ L = rs ++ t ∧ PlA n ks L ∧ m = c.toNat ∧
      ((∃ (f p : Int) (e nn : Nat), c < 2 ^ nn ∧ repF ax nn L j fo c = repR ax C rs ∧ 1 ≤ c ∧ p = 2 ^ e ∧ 0 ≤ f ∧ f + c * p = C ∧ j = L.length - 1 ∧ bxR ks L j = B.set ax (g * p) ∧ t.length ≤ 2 * e ∧ ((f = 0 ∧ fo = none) ∨ ∃ k : Nat, k < L.length ∧ fo = some k ∧ bxR ks L k = B.set ax (g * f))) ∨
       (c = 0 ∧ L = repR ax C rs ∧ t.length ≤ 80 ∧ fo = some (L.length - 1) ∧ bxR ks L (L.length - 1) = B.set ax (g * C))))
    (fun δ => ∃ (L t : List Row) (j : Int) (c3 : Cell), δ = [.gx (.bu a l "Builder" "rows" (L.map Row.d)), .d (.int (ax : Int)), .d (.int j), c3, .d (.int ((L.length - 1 : Nat) : Int))] ∧ L = rs ++ t ∧ L = repR ax C rs ∧ PlA n ks L ∧ t.length ≤ 80 ∧ bxR ks L (L.length - 1) = B.set ax (g * C)) C.toNat ⟨rs, [], C, rs.length - 1, none, rfl, by simp, h, rfl, .inl ⟨0, 1, 0, 40, by omega, rfl, hC, rfl, by omega, by omega, rfl, by rw [hB]; exact eB, by simp, .inl ⟨rfl, rfl⟩⟩⟩ ?_ ?_
  · rintro δ ⟨L, t, j, c3, rfl, rfl, h0, h1, h2, h3⟩
    have fin := hR t h0 h1 h2 h3
    revert fin
    generalize rs ++ t = L
    intro fin
    (try simp -implicitDefEqProofs -dsimp)
    exact fin
  · rintro m δ ⟨L, t, c, j, fo, rfl, hL, pl, rfl, (⟨f, p, e, nn, cn, rep, c1, hp, f0, fc, hj, bj, lt, fnd⟩ | ⟨rfl, hrep, l80, rfl, bl⟩)⟩ K N T hK hN
    · have lL : L.length = rs.length + t.length := by rw [hL]; simp
      have p1 : 1 ≤ p := by
        have q := Nat.two_pow_pos e
        have e2 : (2 : Int) ^ e = ((2 ^ e : Nat) : Int) := by simp
        rw [hp, e2]; omega
      have pC : p ≤ C := by
        have := Int.mul_le_mul_of_nonneg_right c1 (show 0 ≤ p by omega)
        omega
      have e40 := pow_bd hp pC C12
      have gC : ∀ x : Int, x ≤ C → g * x ≤ 10 ^ 12 := fun x hx => by
        have := Int.mul_le_mul_of_nonneg_left hx (show 0 ≤ g by omega)
        omega
      obtain ⟨n', rfl⟩ : ∃ n', nn = n' + 1 := ⟨nn - 1, by
        cases nn with
        | zero => simp at cn; omega
        | succ n => rfl⟩
      have cn2 : c / 2 < 2 ^ n' := by rw [Int.pow_succ] at cn; omega
      unfold repF at rep
      rw [if_neg (by omega)] at rep
      -- what is behind the halving
      have next : ∀ (L' t' : List Row) (f' : Int) (fo' : Option Nat), halfF ax L j fo c = (L', fo') → L' = rs ++ t' → PlA n ks L' → 0 ≤ f' → f' + (c / 2) * (2 * p) = C → j < L'.length → bxR ks L' j = B.set ax (g * p) → t'.length ≤ 2 * e + 1 → ((f' = 0 ∧ fo' = none) ∨ ∃ k : Nat, k < L'.length ∧ fo' = some k ∧ bxR ks L' k = B.set ax (g * f')) →
          (c / 2 = 0 → fo' = some (L'.length - 1)) → w_Builder_repeated_t1 { nx := K, rt := T, bk := N, ct := K } [.gx (.bu a l "Builder" "rows" (L'.map Row.d)), .d (.int (ax : Int)), .d (.int (j : Int)), .d (.int c), .d (fdD fo')] := fun L' t' f' fo' hh hL' pl' f0' fc' jl bj' lt' fnd' hz => by
        have lL' : L'.length = rs.length + t'.length := by rw [hL']; simp
        rw [hh] at rep
        simp -implicitDefEqProofs -dsimp [w_Builder_repeated_t1]
        refine ⟨by unfold CDiv; omega, ?_⟩
        by_cases z : c / 2 = 0
        · rw [if_neg (by omega)]
          have e2 := hz z
          rw [z, Int.zero_mul, Int.add_zero] at fc'
          rw [if_neg (by omega)] at rep
          refine hK 0 _ (by omega) ⟨L', t', c / 2, j, fo', rfl, hL', pl', by omega, .inr ⟨z, rep, by omega, e2, ?_⟩⟩
          rcases fnd' with ⟨q1, q2⟩ | ⟨k, _, q2, q3⟩
          · omega
          · rw [e2] at q2
            have : L'.length - 1 = k := Option.some.inj q2
            rw [this, q3, fc']
        · rw [if_pos (by omega)] at rep
          rw [if_pos (by omega)]
          have b2 : g * p + g * p ≤ 10 ^ 12 := by
            have := Int.mul_le_mul_of_nonneg_right (show 1 ≤ c / 2 by omega) (show 0 ≤ 2 * p by omega)
            have h2 := gC (2 * p) (by omega)
            have e2 : g * (2 * p) = g * p + g * p := by rw [← Int.mul_assoc, Int.mul_comm g 2, Int.mul_assoc]; omega
            omega
          obtain ⟨n1, n2⟩ := two_set pl' hx lB jl jl bj' bj' b2
          have e2 : g * p + g * p = g * (2 * p) := by rw [← Int.mul_assoc, Int.mul_comm g 2, Int.mul_assoc]; omega
          rw [e2] at n2
          simp -implicitDefEqProofs -dsimp [w_Builder_repeated_1]
          refine ⟨.inr ⟨a, l, _, _, rfl, by decide⟩, ask_of (sp := sp_Builder_add) ⟨a, l, L', .two ax j j, rfl, by omega, ?_⟩⟩
          have ol : ∀ k, k < L'.length → bxR ks (L' ++ [.two ax j j]) k = bxR ks L' k := fun k hk => bxR_old hk
          obtain ⟨L2, hL2⟩ : ∃ L2, L' ++ [.two ax j j] = L2 := ⟨_, rfl⟩
          have l2 : L2.length = L'.length + 1 := by rw [← hL2]; simp
          replace rep : repF ax n' (L' ++ [.two ax j j]) L'.length fo' (c / 2) = repR ax C rs := rep
          rw [hL2] at n1 n2 ol rep ⊢
          unfold buR
          (try simp -implicitDefEqProofs -dsimp)
          refine hK (c / 2).toNat _ (by omega) ⟨L2, t' ++ [.two ax j j], c / 2, L'.length, fo', rfl, by rw [← hL2, hL']; simp, n1, rfl, .inl ⟨f', 2 * p, e + 1, n', cn2, rep, by omega, by rw [hp, Int.pow_succ, Int.mul_comm], f0', fc', by omega, n2, by simp; omega, ?_⟩⟩
          rcases fnd' with q | ⟨k, q1, q2, q3⟩
          · exact .inl q
          · exact .inr ⟨k, by omega, q2, by rw [ol k q1]; exact q3⟩
      (try simp -implicitDefEqProofs -dsimp)
      rw [if_pos (by omega)]
      simp -implicitDefEqProofs -dsimp [w_Builder_repeated_4]
      by_cases od : c % 2 = 1
      · rw [if_pos od]
        have half : (c / 2) * (2 * p) = (c - 1) * p := by
          rw [← Int.mul_assoc]
          congr 1
          omega
        have c1p : (c - 1) * p = c * p - p := by rw [Int.sub_mul, Int.one_mul]
        simp -implicitDefEqProofs -dsimp [w_Builder_repeated_2]
        rcases fnd with ⟨rfl, rfl⟩ | ⟨k, q1, rfl, q3⟩
        · rw [if_pos (by rfl)]
          refine next L t p (some j) (by unfold halfF; rw [if_pos od]) hL pl (by omega) (by omega) (by omega) bj (by omega) (.inr ⟨j, by omega, rfl, bj⟩) fun z => by rw [hj]
        · rw [if_neg (by simp [isNone, fdD])]
          have sm : g * f + g * p ≤ 10 ^ 12 := by
            have h1 := Int.mul_le_mul_of_nonneg_right c1 (show 0 ≤ p by omega)
            have h2 := gC (f + p) (by omega)
            rw [Int.mul_add] at h2
            exact h2
          obtain ⟨n1, n2⟩ := two_set pl hx lB q1 (show j < L.length by omega) q3 bj sm
          rw [← Int.mul_add] at n2
          have hh : halfF ax L j (some k) c = (L ++ [.two ax k j], some L.length) := by unfold halfF; rw [if_pos od]
          refine ⟨.inr ⟨a, l, _, _, rfl, by decide⟩, ask_of (sp := sp_Builder_add) ⟨a, l, L, .two ax k j, rfl, by omega, ?_⟩⟩
          have ol : bxR ks (L ++ [.two ax k j]) j = bxR ks L j := bxR_old (by omega)
          obtain ⟨L2, hL2⟩ : ∃ L2, L ++ [.two ax k j] = L2 := ⟨_, rfl⟩
          have l2 : L2.length = L.length + 1 := by rw [← hL2]; simp
          rw [hL2] at n1 n2 ol hh ⊢
          unfold buR
          (try simp -implicitDefEqProofs -dsimp)
          refine next L2 (t ++ [.two ax k j]) (f + p) (some L.length) hh (by rw [← hL2, hL]; simp) n1 (by omega) (by omega) (by omega) (by rw [ol]; exact bj) (by simp; omega) (.inr ⟨L.length, by omega, rfl, n2⟩) fun z => by
            have : L2.length - 1 = L.length := by omega
            rw [this]
      · rw [if_neg od]
        refine next L t f fo (by unfold halfF; rw [if_neg od]) hL pl f0 ?_ (by omega) bj (by omega) fnd fun z => by omega
        have : c / 2 * (2 * p) = c * p := by
          rw [← Int.mul_assoc]
          congr 1
          omega
        omega
    · (try simp -implicitDefEqProofs -dsimp)
      exact hN _ ⟨L, t, _, _, rfl, hL, hrep, pl, l80, bl⟩

/-- the sides up to i multiplied -/
def preM (kb cn : List Int) (i : Nat) : List Int := (List.range kb.length).map fun j => if j < i then gi kb j * gi cn j else gi kb j
theorem preM_gi {kb cn : List Int} {i j : Nat} (h : j < kb.length) : gi (preM kb cn i) j = if j < i then gi kb j * gi cn j else gi kb j := by
  unfold preM
  show (((List.range kb.length).map fun j => if j < i then gi kb j * gi cn j else gi kb j)[j]?).getD 1 = _
  rw [List.getElem?_map, List.getElem?_range h]
  rfl
theorem preM_len (kb cn : List Int) (i : Nat) : (preM kb cn i).length = kb.length := by simp [preM]
theorem preM_0 (kb cn : List Int) : preM kb cn 0 = kb := gi_ext (preM_len _ _ _) fun j hj => by
  rw [preM_len] at hj
  rw [preM_gi hj, if_neg (by omega)]
theorem preM_step {kb cn : List Int} {i : Nat} (h : i < kb.length) : (preM kb cn i).set i (gi kb i * gi cn i) = preM kb cn (i + 1) := gi_ext (by simp [preM_len]) fun j hj => by
  have hj' : j < kb.length := by simpa [preM_len] using hj
  rw [gi_set (by rw [preM_len]; exact hj'), preM_gi hj', preM_gi hj']
  by_cases q : j = i
  · subst q; rw [if_pos rfl, if_pos (by omega)]
  · rw [if_neg q]
    by_cases z : j < i
    · rw [if_pos z, if_pos (by omega)]
    · rw [if_neg z, if_neg (by omega)]
theorem preM_end {kb cn : List Int} (h : cn.length = kb.length) : preM kb cn kb.length = mulL kb cn := gi_ext (by simp [preM_len, mulL, h]) fun j hj => by
  rw [preM_len] at hj
  rw [preM_gi hj, if_pos hj]
  unfold mulL
  show _ = ((List.zipWith (· * ·) kb cn)[j]?).getD 1
  rw [List.getElem?_zipWith, gi_at hj, gi_at (by omega : j < cn.length)]
  rfl
theorem rd_Builder_block : ∀ cs R, sp_Builder_block cs R → w_Builder_block (endsOf cs R) (start0 6 cs) := by
  rintro _ R ⟨a, l, n, ks, rs, k, cn, rfl, kd, h, hl, hk, hn, hc, hR⟩
  have h1 := h.one hk
  have b1 := bxR_new ks rs (.one k)
  obtain ⟨kb, hkb⟩ : ∃ kb, bxOf ks k = kb := ⟨_, rfl⟩
  have lk : kb.length = n := by rw [← hkb]; exact kd.len _ (bx_mem hk)
  have ik : In (10 ^ 12) kb := by rw [← hkb]; exact kd.side _ (bx_mem hk)
  rw [show boxR ks (boxesR ks [] rs) (.one k) = kb from hkb] at b1
  rw [hkb] at hc hR
  unfold buR at hR ⊢
  simp -implicitDefEqProofs -dsimp [w_Builder_block]
  refine ⟨.inr ⟨a, l, _, _, rfl, by decide⟩, ask_of (sp := sp_Builder_add) ⟨a, l, rs, .one k, rfl, by omega, ?_⟩⟩
  obtain ⟨L0, hL0⟩ : ∃ L0, rs ++ [Row.one k] = L0 := ⟨_, rfl⟩
  have l0 : L0.length = rs.length + 1 := by rw [← hL0]; simp
  rw [hL0] at h1 b1 ⊢
  have e0 : (rs.length : Int) = ((L0.length - 1 : Nat) : Int) := by omega
  unfold buR
  (try simp -implicitDefEqProofs -dsimp)
  rw [e0]
  refine for_enumd cn PyData.int _ rfl (fun i δ => ∃ (L t : List Row) (c4 c5 : Cell), δ = [.gx (.bu a l "Builder" "rows" (L.map Row.d)), .d (.int (k : Int)), .d (tI cn), .d (.int ((L.length - 1 : Nat) : Int)), c4, c5] ∧ L = rs ++ t ∧ L = blkR k cn rs i ∧ PlA n ks L ∧ 0 < t.length ∧ t.length ≤ 1 + 80 * i ∧ bxR ks L (L.length - 1) = preM kb cn i) ⟨L0, [.one k], _, _, rfl, hL0.symm, hL0.symm, h1, by simp, by simp, by rw [preM_0, show L0.length - 1 = rs.length by omega]; exact b1⟩ ?_ ?_
  · rintro δ ⟨L, t, c4, c5, rfl, rfl, hbk, pl, t0, tl, bl⟩
    have n4 := kd.n1
    rw [hn] at hbk
    rw [hn, ← lk, preM_end (by omega)] at bl
    have fin := hR t hbk t0 pl (by omega) bl
    revert fin
    generalize rs ++ t = L
    intro fin
    (try simp -implicitDefEqProofs -dsimp)
    exact fin
  · rintro i hi x δ ex ⟨L, t, c4, c5, rfl, hL, hbk, pl, t0, tl, bl⟩ K B T hK
    have n4 := kd.n1
    have lL : L.length = rs.length + t.length := by rw [hL]; simp
    have gx : gi cn i = x := by
      rw [← ex]
      show (cn[i]?).getD 1 = _
      rw [List.getElem?_eq_getElem hi]; rfl
    have hi' : i < kb.length := by omega
    have gp : gi (bxR ks L (L.length - 1)) i = gi kb i := by rw [bl, preM_gi hi', if_neg (by omega)]
    obtain ⟨c1, c2⟩ := hc i (by omega)
    rw [gx] at c1 c2
    simp -implicitDefEqProofs -dsimp [w_Builder_block_1]
    refine ⟨.inr ⟨a, l, _, _, rfl, by decide⟩, ask_of (sp := sp_Builder_repeated) ⟨a, l, n, ks, L, i, x, rfl, pl, by omega, by omega, by omega, c1, by rw [gp]; exact c2, fun u ru pu lu bu => ?_⟩⟩
    rw [gp, bl, ← gx, preM_step hi'] at bu
    obtain ⟨L2, hL2⟩ : ∃ L2, L ++ u = L2 := ⟨_, rfl⟩
    rw [hL2] at ru pu bu ⊢
    unfold buR
    (try simp -implicitDefEqProofs -dsimp)
    exact hK _ ⟨L2, t ++ u, _, _, rfl, by rw [← hL2, hL]; simp, by rw [ru, hbk, ← gx]; rfl, pu, by simp; omega, by simp; omega, bu⟩
theorem div_ok {kb bx : List Int} (hl : kb.length = bx.length) (hr : restsF kb bx = []) (kp : ∀ x ∈ kb, 1 ≤ x) (xp : ∀ x ∈ bx, 1 ≤ x) : mulL kb (divL bx kb) = bx ∧ (divL bx kb).length = bx.length ∧ ∀ i, i < bx.length → 1 ≤ gi (divL bx kb) i ∧ gi kb i * gi (divL bx kb) i = gi bx i := by
  have ld : (divL bx kb).length = bx.length := by unfold divL; simp [hl]
  have gd : ∀ i, i < bx.length → gi (divL bx kb) i = gi bx i / gi kb i := fun i hi => by
    unfold divL
    show ((List.zipWith (· / ·) bx kb)[i]?).getD 1 = _
    rw [List.getElem?_zipWith, gi_at hi, gi_at (by omega : i < kb.length)]
    rfl
  have all : ∀ i, i < bx.length → 1 ≤ gi (divL bx kb) i ∧ gi kb i * gi (divL bx kb) i = gi bx i := fun i hi => by
    have d := rests_nil.mp hr i hi
    have k1 := kp _ (gi_mem (i := i) (by omega : i < kb.length))
    have x1 := xp _ (gi_mem hi)
    have e : gi kb i * (gi bx i / gi kb i) = gi bx i := Int.mul_ediv_cancel' d
    rw [gd i hi]
    refine ⟨?_, e⟩
    apply Decidable.byContradiction
    intro z
    have : gi kb i * (gi bx i / gi kb i) ≤ 0 := Int.mul_nonpos_of_nonneg_of_nonpos (by omega) (by omega)
    omega
  refine ⟨gi_ext (by unfold mulL; simp [hl, ld]) fun i hi => ?_, ld, all⟩
  have hi' : i < bx.length := by unfold mulL at hi; simp [hl, ld] at hi; exact hi
  rw [← (all i hi').2]
  unfold mulL
  show ((List.zipWith (· * ·) kb (divL bx kb))[i]?).getD 1 = _
  rw [List.getElem?_zipWith, gi_at (by omega : i < kb.length), gi_at (by omega : i < (divL bx kb).length)]
  rfl
theorem rd_plan_for : ∀ cs R, sp_plan_for cs R → w_plan_for (endsOf cs R) (start0 11 cs) := by
  rintro _ R ⟨a, b, bx, rfl, h, h4, ia, ib, ix, hF, hT⟩
  have la := h.la
  have lb := h.lb
  have l0 := h.l0
  have kd : Kd bx.length [a, b] := ⟨by simp, by simp, l0, h4, fun k hk => by
    rcases List.mem_cons.mp hk with rfl | hk
    · exact la
    · rw [List.mem_singleton.mp hk]; exact lb, fun k hk => by
    rcases List.mem_cons.mp hk with rfl | hk
    · exact ia
    · rw [List.mem_singleton.mp hk]; exact ib⟩
  have p0 : PlA bx.length [a, b] [] := ⟨kd, trivial, fun x hx => by cases hx⟩
  simp -implicitDefEqProofs -dsimp [w_plan_for]
  refine ask_of (sp := sp_is_filled) ⟨a, b, bx, rfl, h, ?_⟩
  (try simp -implicitDefEqProofs -dsimp)
  cases fl : fillB a b bx with
  | false =>
    rw [if_neg (by simp)]
    exact hF fl
  | true =>
    have hT := hT fl
    rw [if_pos rfl]
    simp -implicitDefEqProofs -dsimp [w_plan_for_t2]
    intro x
    refine ask_of (sp := sp_Builder_init) ⟨x, rfl, fun l => ?_⟩
    unfold buR
    (try simp -implicitDefEqProofs -dsimp)
    rw [for_cons]
    simp -implicitDefEqProofs -dsimp [w_plan_for_2]
    refine ask_of (sp := sp_counts_in_k66) ⟨a, bx, rfl, la, by omega, h.pa, ?_⟩
    by_cases ra : restsF a bx = []
    · rw [if_pos ra]
      obtain ⟨m1, m2, m3⟩ := div_ok la ra (fun x hx => (ia x hx).1) fun x hx => (ix x hx).1
      simp -implicitDefEqProofs -dsimp [w_plan_for_1]
      refine ⟨.inr ⟨x, l, _, _, rfl, by decide⟩, ask_of (sp := sp_Builder_block) ⟨x, l, bx.length, [a, b], [], 0, divL bx a, rfl, kd, p0, by simp, by simp, m2, fun i hi => ⟨(m3 i hi).1, ?_⟩, fun t rt t0 pt tl bt => ?_⟩⟩
      · have := (m3 i hi).2
        have q := ix _ (gi_mem hi)
        show gi a i * _ ≤ _
        omega
      · rw [List.nil_append] at rt pt bt ⊢
        have fin := hT t (by unfold planR; rw [if_pos ra]; exact rt) pt t0 (by omega) (by rw [bt]; exact m1)
        unfold buR
        (try simp -implicitDefEqProofs -dsimp)
        exact fin
    · rw [if_neg ra]
      (try simp -implicitDefEqProofs -dsimp)
      rw [forK_ap, for_cons]
      simp -implicitDefEqProofs -dsimp [w_plan_for_2]
      refine ask_of (sp := sp_counts_in_k66) ⟨b, bx, rfl, lb, by omega, h.pb, ?_⟩
      by_cases rb : restsF b bx = []
      · rw [if_pos rb]
        obtain ⟨m1, m2, m3⟩ := div_ok lb rb (fun x hx => (ib x hx).1) fun x hx => (ix x hx).1
        simp -implicitDefEqProofs -dsimp [w_plan_for_1]
        refine ⟨.inr ⟨x, l, _, _, rfl, by decide⟩, ask_of (sp := sp_Builder_block) ⟨x, l, bx.length, [a, b], [], 1, divL bx b, rfl, kd, p0, by simp, by simp, m2, fun i hi => ⟨(m3 i hi).1, ?_⟩, fun t rt t0 pt tl bt => ?_⟩⟩
        · have := (m3 i hi).2
          have q := ix _ (gi_mem hi)
          show gi b i * _ ≤ _
          omega
        · rw [List.nil_append] at rt pt bt ⊢
          have fin := hT t (by unfold planR; rw [if_neg ra, if_pos rb]; exact rt) pt t0 (by omega) (by rw [bt]; exact m1)
          unfold buR
          (try simp -implicitDefEqProofs -dsimp)
          exact fin
      · rw [if_neg rb]
        (try simp -implicitDefEqProofs -dsimp)
        rw [forK_ap, for_nil]
        -- both rests are one axis, and its side is a sum
        have fl2 := fl
        unfold fillB at fl2
        rw [show (restsF a bx).isEmpty = false by simpa using ra, show (restsF b bx).isEmpty = false by simpa using rb] at fl2
        simp only [Bool.false_or, Bool.and_eq_true, decide_eq_true_eq] at fl2
        obtain ⟨⟨eq, l1⟩, sm⟩ := fl2
        obtain ⟨ax, hax⟩ : ∃ ax, restsF a bx = [ax] := List.length_eq_one_iff.mp l1
        have hbx : restsF b bx = [ax] := by rw [← eq]; exact hax
        rw [hax] at sm
        have sm : isSum (gi a ax) (gi b ax) (gi bx ax) = true := sm
        obtain ⟨xl, xa⟩ := mem_rests.mp (show ax ∈ restsF a bx by rw [hax]; simp)
        obtain ⟨_, xb⟩ := mem_rests.mp (show ax ∈ restsF b bx by rw [hbx]; simp)
        obtain ⟨ea, eb, ex, qa, qb, qx⟩ := h.at xl
        obtain ⟨ga, hga⟩ : ∃ g, gi a ax = g := ⟨_, rfl⟩
        obtain ⟨gb, hgb⟩ : ∃ g, gi b ax = g := ⟨_, rfl⟩
        obtain ⟨sx, hsx⟩ : ∃ g, gi bx ax = g := ⟨_, rfl⟩
        have ga12 := ia _ (gi_mem (i := ax) (by omega : ax < a.length))
        have sx12 := ix _ (gi_mem xl)
        rw [hga] at xa sm ea qa ga12
        rw [hgb] at xb sm eb qb
        rw [hsx] at xa xb sm ex qx sx12
        obtain ⟨u, v, u0, v0, uv⟩ := (isSum_iff qa.1 qb.1).mp sm
        obtain ⟨tt, ht⟩ : ∃ tt, timesF ga gb sx = some tt := by
          unfold isSum at sm
          cases e : timesF ga gb sx with
          | none => rw [e] at sm; cases sm
          | some tt => exact ⟨tt, rfl⟩
        obtain ⟨_, t0, _, td⟩ := times_some qa.1 qb.1 ht
        obtain ⟨tu, _⟩ := times_least qa.1 qb.1 ht u0 (show gb ∣ sx - ga * u from ⟨v, by omega⟩)
        have gu : ga * tt ≤ ga * u := Int.mul_le_mul_of_nonneg_left tu (by omega)
        have gv : 0 ≤ gb * v := Int.mul_nonneg (by have := qb.1; omega) v0
        have t1 : 1 ≤ tt := by
          apply Decidable.byContradiction
          intro z
          have : tt = 0 := by omega
          rw [this, Int.mul_zero, Int.sub_zero] at td
          exact xb (Int.emod_eq_zero_of_dvd td)
        have z1 : ga ≤ tt * ga := by
          have := Int.mul_le_mul_of_nonneg_right t1 (show 0 ≤ ga by omega)
          omega
        have mc : ga * tt = tt * ga := Int.mul_comm _ _
        have z2 : tt * ga < sx := by
          apply Decidable.byContradiction
          intro z
          have : sx = ga * tt := by omega
          exact xa (by rw [this]; exact Int.mul_emod_right ga tt)
        have rest : ∀ (k : List Int) (y : Int), restsF k bx = [ax] → gi k ax ∣ y → restsF k (bx.set ax y) = [] := fun k y hk hd => rests_nil.mpr fun i hi => by
          rw [List.length_set] at hi
          rw [gi_set hi]
          by_cases q : i = ax
          · rw [if_pos q, q]; exact hd
          · rw [if_neg q]
            apply Decidable.byContradiction
            intro z
            have : i ∈ restsF k bx := mem_rests.mpr ⟨hi, fun e => z (Int.dvd_of_emod_eq_zero e)⟩
            rw [hk] at this
            exact q (List.mem_singleton.mp this)
        have setp : ∀ y : Int, 1 ≤ y → ∀ z ∈ bx.set ax y, 1 ≤ z := fun y hy z hz => by
          rcases List.mem_or_eq_of_mem_set hz with q | q
          · exact (ix z q).1
          · rw [q]; exact hy
        have set12 : ∀ y : Int, y ≤ 10 ^ 12 → ∀ i, i < bx.length → gi (bx.set ax y) i ≤ 10 ^ 12 := fun y hy i hi => by
          rw [gi_set hi]
          split
          · exact hy
          · exact (ix _ (gi_mem hi)).2
        have R1 := rest a (tt * ga) hax (by rw [hga]; exact ⟨tt, Int.mul_comm _ _⟩)
        have R2 := rest b (sx - tt * ga) hbx (by rw [hgb, ← mc]; exact td)
        obtain ⟨m1, m2, m3⟩ := div_ok (kb := a) (bx := bx.set ax (tt * ga)) (by simpa using la) R1 (fun x hx => (ia x hx).1) (setp _ (by omega))
        obtain ⟨k1, k2, k3⟩ := div_ok (kb := b) (bx := bx.set ax (sx - tt * ga)) (by simpa using lb) R2 (fun x hx => (ib x hx).1) (setp _ (by omega))
        rw [List.length_set] at m2 m3 k2 k3
        have whole : bx.set ax (tt * ga + (sx - tt * ga)) = bx := by
          rw [show tt * ga + (sx - tt * ga) = sx by omega, ← hsx]
          apply List.ext_getElem?
          intro i
          by_cases q : ax = i
          · subst q; rw [List.getElem?_set_self xl, ← gi_at xl]
          · rw [List.getElem?_set_ne q]
        simp -implicitDefEqProofs -dsimp [w_plan_for_t1]
        rw [numbered_gi]
        refine com_map (List.range bx.length) (fun i => .tuple [.int ((i : Nat) : Int), .int (gi bx i)]) rfl (fun i => if gi bx i % gi a i ≠ 0 then some (.int (i : Int)) else none) (fun i hi acc K hK => ?_) ?_
        · have hi := List.mem_range.mp hi
          obtain ⟨ea, _, _, qa, _, _⟩ := h.at hi
          have qa1 := qa.1
          simp -implicitDefEqProofs -dsimp [ea]
          refine ⟨by omega, ?_⟩
          split
          · rename_i z
            simpa [z] using hK
          · rename_i z
            simpa [z] using hK
        · have er : (List.range bx.length).filterMap (fun i => if gi bx i % gi a i ≠ 0 then some (PyData.int (i : Int)) else none) = lN (restsF a bx) := by
            unfold restsF lN
            rw [← List.filterMap_eq_map', List.filterMap_filter]
            congr 1
            funext i
            by_cases q : gi bx i % gi a i = 0 <;> simp [q]
          rw [er, hax]
          simp -implicitDefEqProofs -dsimp [ea, eb, ex]
          refine ask_of (sp := sp_least_times) ⟨ga, gb, sx, rfl, qa, qb, by have := qx.1; have := BIG_ge; omega, qx.2, ?_⟩
          rw [ht]
          simp -implicitDefEqProofs -dsimp [optI, ea, eb, ex]
          have ms : ∀ y : Int, (lI bx).set ax (.int y) = lI (bx.set ax y) := fun y => by unfold lI; rw [List.map_set]
          have ga64 : -(2 ^ 64) < ga ∧ ga < 2 ^ 64 := by omega
          refine ⟨.inl (.inr ga64), .inr ⟨x, l, _, _, rfl, by decide⟩, ask_of (sp := sp_Lwith) ⟨lI bx, ax, .int (tt * ga), rfl, by simpa using xl, by simp; omega, ?_⟩⟩
          (try simp -implicitDefEqProofs -dsimp)
          rw [← List.map_set]
          refine ask_of (sp := sp_counts_in_k66) ⟨a, bx.set ax (tt * ga), rfl, by simpa using la, by simp; omega, h.pa, ?_⟩
          rw [if_pos R1]
          (try simp -implicitDefEqProofs -dsimp)
          refine ask_of (sp := sp_Builder_block) ⟨x, l, bx.length, [a, b], [], 0, divL (bx.set ax (tt * ga)) a, rfl, kd, p0, by simp, by simp, m2, fun i hi => ⟨(m3 i hi).1, ?_⟩, fun t rt u0 pt tl bt => ?_⟩
          · have := (m3 i hi).2
            have q := set12 (tt * ga) (by omega) i hi
            show gi a i * _ ≤ _
            omega
          · rw [List.nil_append] at rt pt bt ⊢
            rw [show bxOf [a, b] 0 = a from rfl, m1] at bt
            unfold buR
            simp -implicitDefEqProofs -dsimp [ex]
            refine ⟨.inr ⟨x, l, _, _, rfl, by decide⟩, ask_of (sp := sp_Lwith) ⟨lI bx, ax, .int (sx - tt * ga), rfl, by simpa using xl, by simp; omega, ?_⟩⟩
            (try simp -implicitDefEqProofs -dsimp)
            rw [← List.map_set]
            refine ask_of (sp := sp_counts_in_k66) ⟨b, bx.set ax (sx - tt * ga), rfl, by simpa using lb, by simp; omega, h.pb, ?_⟩
            rw [if_pos R2]
            (try simp -implicitDefEqProofs -dsimp)
            refine ask_of (sp := sp_Builder_block) ⟨x, l, bx.length, [a, b], t, 1, divL (bx.set ax (sx - tt * ga)) b, rfl, kd, pt, by omega, by simp, k2, fun i hi => ⟨(k3 i hi).1, ?_⟩, fun v rv v0 pv vl bv => ?_⟩
            · have := (k3 i hi).2
              have q := set12 (sx - tt * ga) (by omega) i hi
              show gi b i * _ ≤ _
              omega
            · rw [show bxOf [a, b] 1 = b from rfl, k1] at bv
              have old : bxR [a, b] (t ++ v) (t.length - 1) = bx.set ax (tt * ga) := by rw [bxR_old (by omega)]; exact bt
              have lv : (t ++ v).length = t.length + v.length := by simp
              obtain ⟨L, hL⟩ : ∃ L, t ++ v = L := ⟨_, rfl⟩
              rw [hL] at rv pv bv old lv ⊢
              obtain ⟨n1, n2⟩ := two_set pv xl rfl (show t.length - 1 < L.length by omega) (show L.length - 1 < L.length by omega) old bv (by omega)
              rw [whole] at n2
              have ep : L ++ [.two ax (t.length - 1) (L.length - 1)] = planR a b bx := by
                unfold planR
                rw [if_neg ra, if_neg rb, hax]
                simp only [List.headD_cons, hga, hgb, hsx, ht, Option.getD_some]
                rw [← rt, ← rv]
              have fin := hT _ ep n1 (by simp) (by simp; omega) (by rw [List.length_append]; simpa using n2)
              unfold buR
              (try simp -implicitDefEqProofs -dsimp)
              refine ⟨.inr ⟨x, l, _, _, rfl, by decide⟩, ask_of (sp := sp_Builder_add) ⟨x, l, L, .two ax (t.length - 1) (L.length - 1), rfl, by omega, ?_⟩⟩
              revert fin
              generalize L ++ [Row.two ax (t.length - 1) (L.length - 1)] = M
              intro fin
              unfold buR
              (try simp -implicitDefEqProofs -dsimp)
              exact fin
end TW
set_option Elab.async false
set_option linter.all false
set_option maxRecDepth 100000
set_option maxHeartbeats 4000000
namespace K66
open PySem PySem.Spec PyProof.Rows L2 DL TW
abbrev sp_law : DSp := spLaw
def sp_Lright : DSp := fun cs R => ∃ a b bx w, cs = [.d (prD a b), .d (tI bx), .d (.bool w)] ∧ PB a b bx ∧ bx.length ≤ 4 ∧ In (10 ^ 12) a ∧ In (10 ^ 12) b ∧ In (10 ^ 12) bx ∧ w = fillB a b bx ∧ R (.bool true) cs
def w_Lright_s1 : DTS := (wRet (wOp pEq (wOp pAddB (wOp pMulT (wVar 4) (wCall [] sp_Lvolume (wCons (wOp pIx (wVar 0) (wC (.int 0))) wNil))) (wOp pMulT (wVar 5) (wCall [] sp_Lvolume (wCons (wOp pIx (wVar 0) (wC (.int 1))) wNil)))) (wCall [] sp_Lvolume (wCons (wVar 1) wNil))))
@[simp ↓] theorem w_Lright_s1_ap (E : DEnds) (δ : DS) : w_Lright_s1 E δ = (wRet (wOp pEq (wOp pAddB (wOp pMulT (wVar 4) (wCall [] sp_Lvolume (wCons (wOp pIx (wVar 0) (wC (.int 0))) wNil))) (wOp pMulT (wVar 5) (wCall [] sp_Lvolume (wCons (wOp pIx (wVar 0) (wC (.int 1))) wNil)))) (wCall [] sp_Lvolume (wCons (wVar 1) wNil)))) E δ := rfl
def w_Lright_t1 : DTS := (wSeq (wAsgG (wCall [] sp_Lplan_bricks (wCons (wVar 0) (wCons (wVar 3) wNil))) (gT (gsCons (gN 4) (gsCons (gN 5) gsNil)))) w_Lright_s1)
def w_Lright_t2 : DTS := (wSeq (wIf (wOr (wB (wOp pIsNot (wCall [] sp_Lplan_error (wCons (wVar 0) (wCons (wVar 3) wNil))) (wC .none))) (wB (wOp pNe (wFn pReprN (wCons (wOp pIx (wCall [] sp_Lplan_boxes (wCons (wVar 0) (wCons (wVar 3) wNil))) (wUn pNeg (wC (.int 1)))) wNil)) (wFn pReprN (wCons (wVar 1) wNil))))) (wRet (wC (.bool false))) wNext) w_Lright_t1)
def w_Lright_t3 : DTS := (wSeq (wIf (wB (wOp pIs (wVar 3) (wC .none))) (wRet (wC (.bool true))) wNext) w_Lright_t2)
def w_Lright_s2 : DTS := (wSeq (wIf (wOr (wB (wOp pNe (wFn pReprN (wCons (wCall [] sp_plan_for (wCons (wVar 0) (wCons (wVar 1) wNil))) wNil)) (wFn pReprN (wCons (wVar 3) wNil)))) (wB (wOp pNe (wOp pIsNot (wVar 3) (wC .none)) (wVar 2)))) (wRet (wC (.bool false))) wNext) w_Lright_t3)
@[simp ↓] theorem w_Lright_s2_ap (E : DEnds) (δ : DS) : w_Lright_s2 E δ = (wSeq (wIf (wOr (wB (wOp pNe (wFn pReprN (wCons (wCall [] sp_plan_for (wCons (wVar 0) (wCons (wVar 1) wNil))) wNil)) (wFn pReprN (wCons (wVar 3) wNil)))) (wB (wOp pNe (wOp pIsNot (wVar 3) (wC .none)) (wVar 2)))) (wRet (wC (.bool false))) wNext) w_Lright_t3) E δ := rfl
def w_Lright : DTS := (wSeq (wSet 3 (mE (wCall [] sp_plan_for (wCons (wVar 0) (wCons (wVar 1) wNil))))) w_Lright_s2)
def w_law_s1 : DTS := (wRet (wCall [] sp_Lright (wCons (wTup (wCons (wTup (wCons (wVar 12) (wCons (wC (.int 5)) wNil))) (wCons (wTup (wCons (wOp pAddB (wVar 12) (wC (.int 1))) (wCons (wC (.int 3)) wNil))) wNil))) (wCons (wTup (wCons (wVar 7) (wCons (wC (.int 15)) wNil))) (wCons (wOp pNe (wVar 7) (wOp pSubB (wOp pSubB (wOp pMulT (wVar 12) (wOp pAddB (wVar 12) (wC (.int 1)))) (wOp pMulT (wC (.int 2)) (wVar 12))) (wC (.int 1)))) wNil)))))
@[simp ↓] theorem w_law_s1_ap (E : DEnds) (δ : DS) : w_law_s1 E δ = (wRet (wCall [] sp_Lright (wCons (wTup (wCons (wTup (wCons (wVar 12) (wCons (wC (.int 5)) wNil))) (wCons (wTup (wCons (wOp pAddB (wVar 12) (wC (.int 1))) (wCons (wC (.int 3)) wNil))) wNil))) (wCons (wTup (wCons (wVar 7) (wCons (wC (.int 15)) wNil))) (wCons (wOp pNe (wVar 7) (wOp pSubB (wOp pSubB (wOp pMulT (wVar 12) (wOp pAddB (wVar 12) (wC (.int 1)))) (wOp pMulT (wC (.int 2)) (wVar 12))) (wC (.int 1)))) wNil))))) E δ := rfl
def w_law_s2 : DTS := (wSeq (wSet 7 (mE (wOp pAddB (wOp pSubB (wOp pSubB (wOp pMulT (wVar 12) (wOp pAddB (wVar 12) (wC (.int 1)))) (wOp pMulT (wC (.int 2)) (wVar 12))) (wC (.int 1))) (wCall [true, false] sp_Ldraw (wCons (wVar 1) (wCons (wC (.int 3)) wNil)))))) w_law_s1)
@[simp ↓] theorem w_law_s2_ap (E : DEnds) (δ : DS) : w_law_s2 E δ = (wSeq (wSet 7 (mE (wOp pAddB (wOp pSubB (wOp pSubB (wOp pMulT (wVar 12) (wOp pAddB (wVar 12) (wC (.int 1)))) (wOp pMulT (wC (.int 2)) (wVar 12))) (wC (.int 1))) (wCall [true, false] sp_Ldraw (wCons (wVar 1) (wCons (wC (.int 3)) wNil)))))) w_law_s1) E δ := rfl
def w_law_s3 : DTS := (wIf (wNot (wB (wCall [] sp_Lright (wCons (wVar 9) (wCons (wVar 11) (wCons (wCall [] sp_Lfar_filled (wCons (wVar 4) (wCons (wVar 5) wNil))) wNil)))))) (wRet (wC (.bool false))) wNext)
@[simp ↓] theorem w_law_s3_ap (E : DEnds) (δ : DS) : w_law_s3 E δ = (wIf (wNot (wB (wCall [] sp_Lright (wCons (wVar 9) (wCons (wVar 11) (wCons (wCall [] sp_Lfar_filled (wCons (wVar 4) (wCons (wVar 5) wNil))) wNil)))))) (wRet (wC (.bool false))) wNext) E δ := rfl
def w_law_s4 : DTS := (wSeq (wSet 11 (mE (wFn pTupOf (wCons (wOfL (wComp (iSeq (wVar 5)) (gN 7) tT (wOp pMulT (wVar 7) (wVar 8)) [7])) wNil)))) w_law_s3)
@[simp ↓] theorem w_law_s4_ap (E : DEnds) (δ : DS) : w_law_s4 E δ = (wSeq (wSet 11 (mE (wFn pTupOf (wCons (wOfL (wComp (iSeq (wVar 5)) (gN 7) tT (wOp pMulT (wVar 7) (wVar 8)) [7])) wNil)))) w_law_s3) E δ := rfl
def w_law_s5 : DTS := (wSeq (wSet 9 (mE (wFn pTupOf (wCons (wOfL (wComp (iSeq (wVar 4)) (gN 10) tT (wFn pTupOf (wCons (wOfL (wComp (iSeq (wVar 10)) (gN 7) tT (wOp pMulT (wVar 7) (wVar 8)) [7])) wNil)) [10])) wNil)))) w_law_s4)
@[simp ↓] theorem w_law_s5_ap (E : DEnds) (δ : DS) : w_law_s5 E δ = (wSeq (wSet 9 (mE (wFn pTupOf (wCons (wOfL (wComp (iSeq (wVar 4)) (gN 10) tT (wFn pTupOf (wCons (wOfL (wComp (iSeq (wVar 10)) (gN 7) tT (wOp pMulT (wVar 7) (wVar 8)) [7])) wNil)) [10])) wNil)))) w_law_s4) E δ := rfl
def w_law_t1 : DTS := (wSeq (wSet 8 (mE (wOp pAddB (wC (.int 1)) (wCall [true, false] sp_Ldraw (wCons (wVar 1) (wCons (wOp pPow (wC (.int 10)) (wC (.int 4))) wNil)))))) w_law_s5)
def w_law_s6 : DTS := (wSeq (wIf (wNot (wB (wCall [] sp_Lright (wCons (wVar 4) (wCons (wVar 6) (wCons (wCall [] sp_Lfar_filled (wCons (wVar 4) (wCons (wVar 6) wNil))) wNil)))))) (wRet (wC (.bool false))) wNext) w_law_t1)
@[simp ↓] theorem w_law_s6_ap (E : DEnds) (δ : DS) : w_law_s6 E δ = (wSeq (wIf (wNot (wB (wCall [] sp_Lright (wCons (wVar 4) (wCons (wVar 6) (wCons (wCall [] sp_Lfar_filled (wCons (wVar 4) (wCons (wVar 6) wNil))) wNil)))))) (wRet (wC (.bool false))) wNext) w_law_t1) E δ := rfl
def w_law_t2 : DTS := (wSeq (wSet 6 (mE (wFn pTupOf (wCons (wOfL (wComp (iSeq (wCall [true, false] sp_Lfar_box (wCons (wVar 1) (wCons (wVar 4) wNil)))) (gN 7) tT (wFn pMin2 (wCons (wOp pPow (wC (.int 10)) (wC (.int 12))) (wCons (wVar 7) wNil))) [7])) wNil)))) w_law_s6)
def w_law_s7 : DTS := (wSeq (wIf (wNot (wB (wCall [] sp_Lright (wCons (wVar 4) (wCons (wVar 5) (wCons (wCall [] sp_Lfar_filled (wCons (wVar 4) (wCons (wVar 5) wNil))) wNil)))))) (wRet (wC (.bool false))) wNext) w_law_t2)
@[simp ↓] theorem w_law_s7_ap (E : DEnds) (δ : DS) : w_law_s7 E δ = (wSeq (wIf (wNot (wB (wCall [] sp_Lright (wCons (wVar 4) (wCons (wVar 5) (wCons (wCall [] sp_Lfar_filled (wCons (wVar 4) (wCons (wVar 5) wNil))) wNil)))))) (wRet (wC (.bool false))) wNext) w_law_t2) E δ := rfl
def w_law_s8 : DTS := (wSeq (wSet 5 (mE (wCall [true, false, false, false] sp_Lbox (wCons (wVar 1) (wCons (wVar 4) (wCons (wC (.int 9)) (wCons (wOp pPow (wC (.int 10)) (wC (.int 6))) wNil))))))) w_law_s7)
@[simp ↓] theorem w_law_s8_ap (E : DEnds) (δ : DS) : w_law_s8 E δ = (wSeq (wSet 5 (mE (wCall [true, false, false, false] sp_Lbox (wCons (wVar 1) (wCons (wVar 4) (wCons (wC (.int 9)) (wCons (wOp pPow (wC (.int 10)) (wC (.int 6))) wNil))))))) w_law_s7) E δ := rfl
def w_law_s9 : DTS := (wSeq (wSet 4 (mE (wCall [true, false, false] sp_Lpair (wCons (wVar 1) (wCons (wVar 3) (wCons (wCall [true, false] sp_Lone (wCons (wVar 1) (wCons (wOfL (wLst (wCons (wC (.int 5)) (wCons (wC (.int 9)) wNil)))) wNil))) wNil)))))) w_law_s8)
@[simp ↓] theorem w_law_s9_ap (E : DEnds) (δ : DS) : w_law_s9 E δ = (wSeq (wSet 4 (mE (wCall [true, false, false] sp_Lpair (wCons (wVar 1) (wCons (wVar 3) (wCons (wCall [true, false] sp_Lone (wCons (wVar 1) (wCons (wOfL (wLst (wCons (wC (.int 5)) (wCons (wC (.int 9)) wNil)))) wNil))) wNil)))))) w_law_s8) E δ := rfl
def w_law_3 : DTS := (wSeq (wSet 3 (mE (wOp pAddB (wC (.int 1)) (wCall [true, false] sp_Ldraw (wCons (wVar 1) (wCons (wC (.int 4)) wNil)))))) w_law_s9)
def w_law_t3 : DTS := (wSeq (wSet 12 (mE (wOp pAddB (wC (.int 2)) (wCall [true, false] sp_Ldraw (wCons (wVar 1) (wCons (wOp pPow (wC (.int 10)) (wC (.int 5))) wNil)))))) w_law_s2)
def w_law_s10 : DTS := (wSeq (wFor (iRange1 (wCons (wC (.int 10)) wNil)) (gN 2) w_law_3) w_law_t3)
@[simp ↓] theorem w_law_s10_ap (E : DEnds) (δ : DS) : w_law_s10 E δ = (wSeq (wFor (iRange1 (wCons (wC (.int 10)) wNil)) (gN 2) w_law_3) w_law_t3) E δ := rfl
def w_law : DTS := (wSeq (wSet 1 (wCallM [true] sp_Ldeck (wCons (wVar 0) wNil))) w_law_s10)
theorem ln_Lright : ∀ cs R, sp_Lright cs R → cs.length = 3 := by
  intro cs R h
  unfold sp_Lright at h
  repeat (obtain ⟨_, h⟩ := h)
  subst_vars; rfl
theorem ln_law : ∀ cs R, sp_law cs R → cs.length = 1 := by
  intro cs R h
  unfold sp_law at h
  repeat (obtain ⟨_, h⟩ := h)
  subst_vars; rfl
end K66
set_option Elab.async false
set_option linter.all false
set_option maxRecDepth 100000
set_option maxHeartbeats 4000000
namespace K66
open PySem PySem.Spec PyProof.Rows L2 DL TW
theorem vol_put : ∀ {p q : List Int} {ax : Nat}, q.length = p.length → ax < p.length → (∀ k, k < p.length → k ≠ ax → gi p k = gi q k) → vol (TW.putF p q ax) = vol p + vol q
  | [], q, ax, _, h, _ => by simp at h
  | x :: xs, [], ax, h, _, _ => by simp at h
  | x :: xs, y :: ys, 0, hl, _, h => by
    have e : xs = ys := gi_ext (by simpa using hl.symm) fun i hi => by
      have := h (i + 1) (by simp; omega) (by omega)
      simpa using this
    subst e
    show vol ((x + y) :: xs) = _
    rw [vol_cons, vol_cons, vol_cons, Int.add_mul]
  | x :: xs, y :: ys, ax + 1, hl, hx, h => by
    have e : x = y := by have := h 0 (by simp) (by omega); simpa using this
    subst e
    have ih := vol_put (p := xs) (q := ys) (ax := ax) (by simpa using hl) (by simpa using hx) fun k hk hn => by
      have := h (k + 1) (by simp; omega) (by omega)
      simpa using this
    have e2 : TW.putF (x :: xs) (x :: ys) (ax + 1) = x :: TW.putF xs ys ax := by unfold TW.putF; simp
    rw [e2, vol_cons, vol_cons, vol_cons, ih, Int.mul_add]
theorem box_at' {n : Nat} {ks : List (List Int)} {rs : List TW.Row} {d : Nat} (hd : d < rs.length) : bxOf (boxesR ks [] rs) d = boxR ks (boxesR ks [] (rs.take d)) (rs.getD d (.one 0)) ∧ ∀ i, i < d → bxOf (boxesR ks [] (rs.take d)) i = bxOf (boxesR ks [] rs) i := by
  have e1 : boxesR ks [] (rs.take (d + 1)) = boxesR ks [] (rs.take d) ++ [boxR ks (boxesR ks [] (rs.take d)) (rs.getD d (.one 0))] := by rw [take_snoc hd, boxesR_app]; rfl
  have ll : (boxesR ks [] (rs.take d)).length = d := by rw [boxesR_len, List.length_take]; simp; omega
  refine ⟨?_, fun i hi => ?_⟩
  · have := bxOf_take (bs := boxesR ks [] rs) (m := d + 1) (i := d) (by omega)
    rw [← boxesR_take, e1] at this
    rw [← this]
    unfold bxOf
    rw [List.getD_eq_getElem?_getD, List.getElem?_append_right (by omega), ll, Nat.sub_self]; rfl
  · rw [boxesR_take]; exact bxOf_take hi
theorem cntsR_ext (kn : Nat) : ∀ (xs : List TW.Row) (bs : List (List Int)), ∃ t, cntsR kn bs xs = bs ++ t ∧ t.length = xs.length
  | [], bs => ⟨[], by simp [cntsR], rfl⟩
  | x :: xs, bs => by
    obtain ⟨t, e, l⟩ := cntsR_ext kn xs (bs ++ [cntR kn bs x])
    exact ⟨cntR kn bs x :: t, by show cntsR kn (bs ++ [cntR kn bs x]) xs = _; rw [e]; simp, by simp [l]⟩
theorem cnt_at' {kn : Nat} {rs : List TW.Row} {d : Nat} (hd : d < rs.length) : bxOf (cntsR kn [] rs) d = cntR kn (cntsR kn [] (rs.take d)) (rs.getD d (.one 0)) ∧ ∀ i, i < d → bxOf (cntsR kn [] (rs.take d)) i = bxOf (cntsR kn [] rs) i := by
  have e := cntsR_app kn (rs.take (d + 1)) (rs.drop (d + 1)) []
  rw [List.take_append_drop, take_snoc hd, cntsR_app] at e
  have e3 : cntsR kn (cntsR kn [] (rs.take d)) [rs.getD d (.one 0)] = cntsR kn [] (rs.take d) ++ [cntR kn (cntsR kn [] (rs.take d)) (rs.getD d (.one 0))] := rfl
  obtain ⟨t, e2, _⟩ := cntsR_ext kn (rs.drop (d + 1)) (cntsR kn (cntsR kn [] (rs.take d)) [rs.getD d (.one 0)])
  rw [e2, e3] at e
  have ll : (cntsR kn [] (rs.take d)).length = d := by rw [cntsR_len, List.length_take]; simp; omega
  refine ⟨?_, fun i hi => ?_⟩
  · rw [e]
    unfold bxOf
    rw [List.getD_eq_getElem?_getD, List.append_assoc, List.getElem?_append_right (by omega), ll, Nat.sub_self]; rfl
  · rw [e]
    unfold bxOf
    rw [List.getD_eq_getElem?_getD, List.getD_eq_getElem?_getD, List.append_assoc, List.getElem?_append_left (by omega)]
theorem sum_scale {a b s t : Int} (ha : 1 ≤ a) (hb : 1 ≤ b) (ht : 1 ≤ t) : isSum (a * t) (b * t) (s * t) = isSum a b s := by
  have a2 : 0 < a * t := Int.mul_pos (by omega) (by omega)
  have b2 : 0 < b * t := Int.mul_pos (by omega) (by omega)
  rw [Bool.eq_iff_iff, isSum_iff (by omega) (by omega), isSum_iff ha hb]
  constructor
  · rintro ⟨x, y, hx, hy, e⟩
    refine ⟨x, y, hx, hy, Int.eq_of_mul_eq_mul_right (show t ≠ 0 by omega) ?_⟩
    rw [← e, Int.add_mul]
    simp only [Int.mul_assoc, Int.mul_left_comm, Int.mul_comm]
  · rintro ⟨x, y, hx, hy, e⟩
    refine ⟨x, y, hx, hy, ?_⟩
    rw [← e, Int.add_mul]
    simp only [Int.mul_assoc, Int.mul_left_comm, Int.mul_comm]
theorem fill_scale {a b bx a' b' bx' : List Int} (hl : bx'.length = bx.length) (h : ∀ i, i < bx.length → ∃ t : Int, 1 ≤ t ∧ (gi a i = gi a' i * t ∧ 1 ≤ gi a' i) ∧ (gi b i = gi b' i * t ∧ 1 ≤ gi b' i) ∧ gi bx i = gi bx' i * t) : fillB a b bx = fillB a' b' bx' := by
  rw [Bool.eq_iff_iff, fillB_iff, fillB_iff]
  have dv : ∀ {x y t : Int}, 1 ≤ t → (x * t ∣ y * t ↔ x ∣ y) := fun ht => Int.mul_dvd_mul_iff_right (by omega)
  have da : ∀ i, i < bx.length → (gi a i ∣ gi bx i ↔ gi a' i ∣ gi bx' i) := fun i hi => by
    obtain ⟨t, ht, ⟨e1, _⟩, ⟨e2, _⟩, e3⟩ := h i hi
    rw [e1, e3, dv ht]
  have db : ∀ i, i < bx.length → (gi b i ∣ gi bx i ↔ gi b' i ∣ gi bx' i) := fun i hi => by
    obtain ⟨t, ht, ⟨e1, _⟩, ⟨e2, _⟩, e3⟩ := h i hi
    rw [e2, e3, dv ht]
  have ds : ∀ i, i < bx.length → (isSum (gi a i) (gi b i) (gi bx i) = isSum (gi a' i) (gi b' i) (gi bx' i)) := fun i hi => by
    obtain ⟨t, ht, ⟨e1, p1⟩, ⟨e2, p2⟩, e3⟩ := h i hi
    rw [e1, e2, e3, sum_scale p1 p2 ht]
  unfold Fill
  rw [hl]
  refine or_congr (forall₂_congr da) (or_congr (forall₂_congr db) (exists_congr fun ax => and_congr_right fun hax => and_congr (forall₂_congr fun i hi => imp_congr_right fun _ => and_congr (da i hi) (db i hi)) ?_))
  rw [ds ax hax]

theorem planE_none {ks : List (List Int)} {n : Nat} : ∀ (rs : List TW.Row) (bs : List (List Int)), ValidR ks n bs rs → (∀ b ∈ boxesR ks bs rs, b.length = n ∧ In (10 ^ 12) b) → planE ks n bs (rs.map TW.Row.d) = none
  | [], _, _, _ => rfl
  | r :: rs, bs, ⟨⟨g, ga⟩, hv⟩, hb => by
    have er : rowOf r.d = r := by
      cases r with
      | one k => rfl
      | two ax i j => rfl
    obtain ⟨t, et, _⟩ := boxesR_ext ks rs (bs ++ [boxR ks bs r])
    have hb' : ∀ b ∈ bs ++ [boxR ks bs r], b.length = n ∧ In (10 ^ 12) b := fun b hm => hb b (by
      show b ∈ boxesR ks (bs ++ [boxR ks bs r]) rs
      rw [et]
      exact List.mem_append_left _ hm)
    rw [List.map_cons, planE_cons]
    have e : errR ks.length n bs r.d = none := by
      unfold errR
      rw [er]
      cases r with
      | one k =>
        have g : k < ks.length := g
        have : rowB ks.length n bs.length (TW.Row.one k).d = true := by
          show wholeB 0 ((ks.length : Int) - 1) (.int (k : Int)) = true
          simp [wholeB]; omega
        rw [if_neg (by rw [this]; simp)]
        rfl
      | two ax i j =>
        obtain ⟨g1, g2, g3⟩ := g
        have : rowB ks.length n bs.length (TW.Row.two ax i j).d = true := by
          show (wholeB 0 ((n : Int) - 1) (.int (ax : Int)) && wholeB 0 ((bs.length : Int) - 1) (.int (i : Int)) && wholeB 0 ((bs.length : Int) - 1) (.int (j : Int))) = true
          simp [wholeB]; omega
        rw [if_neg (by rw [this]; simp)]
        show (if agreeB (bxOf bs i) (bxOf bs j) ax = false then some ("sides" : Str) else if gi (bxOf bs i) ax + gi (bxOf bs j) ax > 10 ^ 12 then some "great" else none) = none
        rw [if_neg (by rw [ga ax i j rfl]; simp), if_neg]
        have m := hb' (TW.putF (bxOf bs i) (bxOf bs j) ax) (by simp [boxR])
        have l1 := (hb' (bxOf bs i) (List.mem_append_left _ (bx_mem g2))).1
        have q := m.2 _ (gi_mem (i := ax) (by omega))
        unfold TW.putF at q
        rw [gi_set_eq (by omega)] at q
        omega
    rw [e, er]
    exact planE_none rs _ hv hb
theorem PlA.pl {n : Nat} {ks : List (List Int)} {rs : List TW.Row} (h : PlA n ks rs) (h0 : 0 < rs.length) (h1 : rs.length ≤ 1000) : Pl n ks rs := ⟨h.kd, h.va, h0, by omega⟩
theorem cnt_vol {n : Nat} {a b : List Int} {rs : List TW.Row} (h : Pl n [a, b] rs) : ∀ d, d < rs.length → ∃ x y : Int, bxOf (cntsR 2 [] rs) d = [x, y] ∧ 0 ≤ x ∧ 0 ≤ y ∧ x * vol a + y * vol b = vol (bxOf (boxesR [a, b] [] rs) d) := by
  intro d
  induction d using Nat.strongRecOn with
  | ind d ih =>
    intro hd
    obtain ⟨bb, bl⟩ := h.all
    obtain ⟨b1, b2⟩ := box_at' (n := n) (ks := [a, b]) hd
    obtain ⟨c1, c2⟩ := cnt_at' (kn := 2) hd
    obtain ⟨⟨g, ga⟩, lb⟩ := h.row hd
    cases hr : rs.getD d (.one 0) with
    | one k =>
      rw [hr] at g b1 c1
      have g : k < 2 := g
      rw [b1, c1]
      have hk : k = 0 ∨ k = 1 := by omega
      rcases hk with rfl | rfl
      · exact ⟨1, 0, rfl, by omega, by omega, by show 1 * vol a + 0 * vol b = vol a; omega⟩
      · exact ⟨0, 1, rfl, by omega, by omega, by show 0 * vol a + 1 * vol b = vol b; omega⟩
    | two ax i j =>
      obtain ⟨hx, hi, hj, _⟩ := h.two hd hr
      have ag := ga ax i j hr
      rw [b2 i hi, b2 j hj] at ag
      obtain ⟨_, l1, _⟩ := bb.at (i := i) (by omega)
      obtain ⟨_, l2, _⟩ := bb.at (i := j) (by omega)
      have v := vol_put (p := bxOf (boxesR [a, b] [] rs) i) (q := bxOf (boxesR [a, b] [] rs) j) (ax := ax) (by omega) (by omega) (agree_iff.mp ag)
      have e : bxOf (boxesR [a, b] [] rs) d = TW.putF (bxOf (boxesR [a, b] [] rs) i) (bxOf (boxesR [a, b] [] rs) j) ax := by
        rw [b1, hr]
        show TW.putF _ _ ax = _
        rw [b2 i hi, b2 j hj]
      obtain ⟨x1, y1, e1, x0, y0, v1⟩ := ih i hi (by omega)
      obtain ⟨x2, y2, e2, x3, y3, v2⟩ := ih j hj (by omega)
      refine ⟨x1 + x2, y1 + y2, ?_, by omega, by omega, ?_⟩
      · rw [c1, hr]
        show ((List.range 2).map fun q => gi (bxOf (cntsR 2 [] (rs.take d)) i) q + gi (bxOf (cntsR 2 [] (rs.take d)) j) q) = _
        rw [c2 i hi, c2 j hj, e1, e2]
        rfl
      · rw [e, v, ← v1, ← v2, Int.add_mul, Int.add_mul]
        omega
theorem shp_rowsP {n : Nat} {a b : List Int} {rs : List TW.Row} (h : Pl n [a, b] rs) (hl : rs.length ≤ 1000) : Shp false 2 1000000 (rowsD rs) := by
  have n1 := h.1.n1
  refine (Shp.tuple (ShpL.map (n := 1) (w := 500) (k := 1000) (fun r hr => ?_) hl)).mono (by decide) (by decide)
  obtain ⟨d, hd, rfl⟩ := List.mem_iff_getElem.mp hr
  obtain ⟨⟨g, _⟩, lb⟩ := h.row hd
  have e : rs.getD d (.one 0) = rs[d] := by rw [List.getD_eq_getElem?_getD, List.getElem?_eq_getElem hd]; rfl
  rw [e, lb] at g
  revert g
  generalize rs[d] = r
  intro g
  cases r with
  | one k =>
    have g : k < 2 := g
    exact (Shp.tuple (n := 0) (ShpL.cons (Shp.int64 (by omega) (by omega)) ShpL.nil)).mono (by decide) (by decide)
  | two ax i j =>
    obtain ⟨g1, g2, g3⟩ := g
    exact (Shp.tuple (n := 0) (ShpL.cons (Shp.int64 (by omega) (by omega)) (ShpL.cons (Shp.int64 (by omega) (by omega)) (ShpL.cons (Shp.int64 (by omega) (by omega)) ShpL.nil)))).mono (by decide) (by decide)
theorem vol12 {bx : List Int} (hl : bx.length ≤ 4) (h : In (10 ^ 12) bx) : 1 ≤ vol bx ∧ vol bx ≤ 10 ^ 48 := by
  have g : ∀ (l : List Int), In (10 ^ 12) l → vol l ≤ (10 ^ 12) ^ l.length := fun l => by
    induction l with
    | nil => intro _; decide
    | cons x xs ih =>
      intro h
      have h1 := h x (by simp)
      have i := ih fun y hy => h y (by simp [hy])
      have p := vol_pos (ns := xs) fun y hy => (h y (by simp [hy])).1
      rw [vol_cons, List.length_cons, Int.pow_succ, Int.mul_comm ((10 ^ 12 : Int) ^ xs.length)]
      exact Int.mul_le_mul h1.2 i (by omega) (by decide)
  have q := g bx h
  refine ⟨vol_pos fun x hx => (h x hx).1, ?_⟩
  have hv : bx.length = 0 ∨ bx.length = 1 ∨ bx.length = 2 ∨ bx.length = 3 ∨ bx.length = 4 := by omega
  rcases hv with e | e | e | e | e <;> rw [e] at q <;> exact Int.le_trans q (by decide)
theorem part_le {x y v w t : Int} (hx : 0 ≤ x) (hy : 0 ≤ y) (hv : 1 ≤ v) (hw : 1 ≤ w) (h : x * v + y * w = t) : x ≤ t ∧ y ≤ t := by
  have h1 := Int.mul_le_mul_of_nonneg_left hv hx
  have h2 := Int.mul_le_mul_of_nonneg_left hw hy
  omega
theorem cw {x y : Int} (x0 : 0 ≤ x) (x1 : x ≤ 10 ^ 48) (y0 : 0 ≤ y) (y1 : y ≤ 10 ^ 48) : CMul x y ∨ CMulW x y := by
  have h1 := log_le (i := x) (k := 200) (by omega) (by omega)
  have h2 := log_le (i := y) (k := 200) (by omega) (by omega)
  exact .inr (by unfold CMulW; omega)
theorem wide_gi {l : List Int} {t : Int} {i : Nat} (h : i < l.length) : gi (l.map (· * t)) i = gi l i * t := by
  show ((l.map (· * t))[i]?).getD 1 = _
  rw [List.getElem?_map, gi_at h]
  rfl
theorem rd_Lright : ∀ cs R, sp_Lright cs R → w_Lright (endsOf cs R) (start0 6 cs) := by
  rintro _ R ⟨a, b, bx, w, rfl, h, h4, ia, ib, ix, rfl, hR⟩
  have la := h.la
  have lb := h.lb
  have l0 := h.l0
  simp -implicitDefEqProofs -dsimp [w_Lright]
  cases fl : fillB a b bx with
  | false =>
    refine ask_of (sp := sp_plan_for) ⟨a, b, bx, rfl, h, h4, ia, ib, ix, fun _ => ?_, fun z => by rw [fl] at z; cases z⟩
    (try simp -implicitDefEqProofs -dsimp)
    refine ask_of (sp := sp_plan_for) ⟨a, b, bx, rfl, h, h4, ia, ib, ix, fun _ => ?_, fun z => by rw [fl] at z; cases z⟩
    (try simp -implicitDefEqProofs -dsimp)
    have sn : Shp false 0 10 PyData.none := (Shp.none (n := 0)).mono (by decide) (by decide)
    refine sn.repr ?_
    refine sn.repr ?_
    simp -implicitDefEqProofs -dsimp [w_Lright_t3, fl]
    rw [fl] at hR
    exact hR
  | true =>
    rw [fl] at hR
    refine ask_of (sp := sp_plan_for) ⟨a, b, bx, rfl, h, h4, ia, ib, ix, fun z => (by rw [fl] at z; cases z), fun _ rs hrs pa r0 r1 be => ?_⟩
    (try simp -implicitDefEqProofs -dsimp)
    refine ask_of (sp := sp_plan_for) ⟨a, b, bx, rfl, h, h4, ia, ib, ix, fun z => (by rw [fl] at z; cases z), fun _ rs2 hrs2 _ _ _ _ => ?_⟩
    rw [← hrs] at hrs2
    subst hrs2
    have pl := PlA.pl pa r0 r1
    have sh := shp_rowsP pl r1
    have kd := pa.kd
    (try simp -implicitDefEqProofs -dsimp)
    refine sh.repr ?_
    refine sh.repr ?_
    simp -implicitDefEqProofs -dsimp [w_Lright_t3, w_Lright_t2]
    refine ask_of (sp := sp_Lplan_error) ⟨bx.length, [a, b], _, rfl, kd, ?_⟩
    have pe : planA [a, b] bx.length (rowsD rs2) = .none := by
      show (if 1 ≤ (rs2.map TW.Row.d).length ∧ (rs2.map TW.Row.d).length ≤ 1000 then encP (planE [a, b] bx.length [] (rs2.map TW.Row.d)) else .tuple [.none, .str "plan"]) = .none
      rw [if_pos (by simp; omega), planE_none rs2 [] pa.va pa.bd]
      rfl
    rw [pe]
    (try simp -implicitDefEqProofs -dsimp)
    refine ask_of (sp := sp_Lplan_boxes) ⟨bx.length, [a, b], rs2, rfl, pl, ?_⟩
    have lbs0 : (boxesR [a, b] [] rs2).length = rs2.length := by rw [boxesR_len]; simp
    obtain ⟨bs, hbs⟩ : ∃ bs, boxesR [a, b] [] rs2 = bs := ⟨_, rfl⟩
    have last : bs[rs2.length - 1]? = some bx := by
      have := (pa.at (i := rs2.length - 1) (by omega)).1
      rw [be, hbs] at this
      exact this
    have last2 : bs.getLast? = some bx := by rw [List.getLast?_eq_getElem?, show bs.length = rs2.length by rw [← hbs]; exact lbs0]; exact last
    have cv := cnt_vol pl (rs2.length - 1) (by omega)
    obtain ⟨x, y, cxy, x0, y0, v⟩ := cv
    rw [show bxOf (boxesR [a, b] [] rs2) (rs2.length - 1) = bx from be] at v
    have va := vol12 (bx := a) (by omega) ia
    have vb := vol12 (bx := b) (by omega) ib
    have vx := vol12 (bx := bx) (by omega) ix
    obtain ⟨px, py⟩ := part_le x0 y0 va.1 vb.1 v
    rw [hbs]
    have s2 : Shp false 1 400 (tI bx) := (Shp.tuple (shp_ints (k := 64) (L := 4) h4 fun x hx => log_le (by have := ix x hx; omega) (by have := ix x hx; omega))).mono (by decide) (by decide)
    have a64 : ∀ l : List Int, In (10 ^ 12) l → ∀ x ∈ l, -(2 ^ 64) < x ∧ x < 2 ^ 64 := fun l hl x hx => by
      have := hl x hx; constructor <;> omega
    simp -implicitDefEqProofs -dsimp [last2]
    refine s2.repr ?_
    refine s2.repr ?_
    simp -implicitDefEqProofs -dsimp [w_Lright_t1]
    refine ask_of (sp := sp_Lplan_bricks) ⟨bx.length, [a, b], rs2, rfl, pl, ?_⟩
    rw [show bxOf (cntsR [a, b].length [] rs2) (rs2.length - 1) = [x, y] from cxy]
    (try simp -implicitDefEqProofs -dsimp)
    refine ask_of (sp := sp_Lvolume) ⟨a, rfl, a64 a ia, ?_⟩
    (try simp -implicitDefEqProofs -dsimp)
    refine ⟨cw x0 (by omega) (by omega) va.2, ask_of (sp := sp_Lvolume) ⟨b, rfl, a64 b ib, ?_⟩⟩
    (try simp -implicitDefEqProofs -dsimp)
    refine ⟨cw y0 (by omega) (by omega) vb.2, ask_of (sp := sp_Lvolume) ⟨bx, rfl, a64 bx ix, ?_⟩⟩
    simp -implicitDefEqProofs -dsimp [v]
    exact hR
theorem far_sum {n j : Int} (hn : 2 ≤ n) (h0 : 0 ≤ j) (h1 : j < 3) : fillB [n, 5] [n + 1, 3] [n * (n + 1) - 2 * n - 1 + j, 15] = decide (j ≠ 0) := by
  rw [Bool.eq_iff_iff, fillB_iff, decide_eq_true_eq]
  have nn : n * (n + 1) = n * n + n := by rw [Int.mul_add, Int.mul_one]
  have g0 : ∀ x y : Int, gi [x, y] 0 = x := fun _ _ => rfl
  have g1 : ∀ x y : Int, gi [x, y] 1 = y := fun _ _ => rfl
  have no : j = 0 → ¬ n ∣ n * (n + 1) - 2 * n - 1 + j := fun z d => by
    have d2 : n ∣ 1 := by
      have e : (1 : Int) = n * (n + 1 - 2) - (n * (n + 1) - 2 * n - 1 + j) := by rw [Int.mul_sub]; omega
      rw [e]
      exact Int.dvd_sub (Int.dvd_mul_right _ _) d
    have := Int.le_of_dvd (by decide) d2
    omega
  constructor
  · rintro (d | d | ⟨ax, hax, d, s⟩) z
    · exact no z (d 0 (by simp))
    · have d := d 0 (by simp)
      rw [g0, g0] at d
      have d2 : n + 1 ∣ 1 := by
        have e : (n * (n + 1) - 2 * n - 1 + j) - (n + 1) * (n - 2) = 1 := by
          rw [Int.mul_sub, Int.add_mul, Int.one_mul]; omega
        have d3 := Int.dvd_sub d (Int.dvd_mul_right (n + 1) (n - 2))
        rw [e] at d3
        exact d3
      have := Int.le_of_dvd (by decide) d2
      omega
    · have hax : ax = 0 ∨ ax = 1 := by simp at hax; omega
      rcases hax with rfl | rfl
      · rw [g0, g0, g0, isSum_iff (by omega) (by omega)] at s
        obtain ⟨x, y, x0, y0, e⟩ := s
        subst z
        have d2 : n ∣ y + 1 := ⟨n + 1 - 2 - x - y, by rw [Int.mul_sub, Int.mul_sub, Int.mul_sub]; rw [Int.add_mul] at e; omega⟩
        have := Int.le_of_dvd (by omega) d2
        have q := Int.mul_le_mul_of_nonneg_left (show n - 1 ≤ y by omega) (show 0 ≤ n + 1 by omega)
        have q2 := Int.mul_nonneg (show 0 ≤ n by omega) x0
        have q3 : (n + 1) * (n - 1) = n * n - 1 := by rw [Int.mul_sub, Int.add_mul]; omega
        omega
      · exact no z ((d 0 (by simp) (by decide)).1)
  · intro z
    refine .inr (.inr ⟨0, by simp, fun i hi ne => ?_, ?_⟩)
    · have : i = 1 := by simp at hi; omega
      subst this
      exact ⟨⟨3, rfl⟩, ⟨5, rfl⟩⟩
    · rw [g0, g0, g0, isSum_iff (by omega) (by omega)]
      by_cases j1 : j = 1
      · refine ⟨n - 1, 0, by omega, by omega, ?_⟩
        rw [Int.mul_sub]; omega
      · refine ⟨n - 2, 1, by omega, by omega, ?_⟩
        rw [Int.mul_sub]; omega
theorem keep2 (c : Cell) : keepC (keepC c) = keepC c := by
  cases c <;> rfl
theorem rd_law : ∀ cs R, sp_law cs R → w_law (endsOf cs R) (start0 13 cs) := by
  rintro _ R ⟨a, ns, rfl, hR⟩
  simp -implicitDefEqProofs -dsimp [w_law]
  refine ask_deck fun a1 a2 a3 => ?_
  (try simp -implicitDefEqProofs -dsimp)
  refine for_cnt 0 10 (fun i δ => ∃ c2 c3 c4 c5 c6 c7 c8 c9 c10 c11 c12, δ = [.scr a ns, .dk a1 a2 a3, c2, c3, c4, c5, c6, c7, c8, c9, c10, c11, c12]) ⟨_, _, _, _, _, _, _, _, _, _, _, rfl⟩ ?_ ?_
  · rintro δ ⟨c2, c3, c4, c5, c6, c7, c8, c9, c10, c11, c12, rfl⟩
    simp -implicitDefEqProofs -dsimp [w_law_t3, CPow]
    refine ask_draw (by omega) (by omega) fun n0 n1 n2 => ?_
    obtain ⟨n, hn, nl, nh⟩ : ∃ n : Int, 2 + n0 = n ∧ 2 ≤ n ∧ n ≤ 100001 := ⟨_, rfl, by omega, by omega⟩
    simp -implicitDefEqProofs -dsimp [hn]
    refine ⟨.inl (.inl ⟨by omega, by omega⟩), .inl (.inl ⟨by omega, by omega⟩), ?_⟩
    refine ask_draw (m := 3) (by omega) (by omega) fun j j0 j1 => ?_
    have nn : n * (n + 1) = n * n + n := by rw [Int.mul_add, Int.mul_one]
    have n4 := Int.mul_le_mul nl nl (by omega) (by omega)
    have n5 := Int.mul_le_mul nh nh (by omega) (by omega)
    have n6 := Int.mul_le_mul_of_nonneg_left nl (show 0 ≤ n by omega)
    have fs := far_sum nl j0 j1
    obtain ⟨s, hs⟩ : ∃ s, n * (n + 1) - 2 * n - 1 + j = s := ⟨_, rfl⟩
    have hs1 : 1 ≤ s ∧ s ≤ 10 ^ 12 := by omega
    rw [hs] at fs
    (try simp -implicitDefEqProofs -dsimp)
    rw [hs, hn]
    refine ⟨.inl (.inl ⟨by omega, by omega⟩), .inl (.inl ⟨by omega, by omega⟩), ?_⟩
    have two : ∀ {x y : Int}, 1 ≤ x ∧ x ≤ 10 ^ 12 → 1 ≤ y ∧ y ≤ 10 ^ 12 → In (10 ^ 12) [x, y] := fun hx hy z hz => by
      simp only [List.mem_cons, List.not_mem_nil, or_false] at hz
      rcases hz with rfl | rfl
      · exact hx
      · exact hy
    have h1 := two (x := n) (y := 5) (by omega) (by omega)
    have h2 := two (x := n + 1) (y := 3) (by omega) (by omega)
    have h3 := two (x := s) (y := 15) (by omega) (by omega)
    refine ask_of (sp := sp_Lright) ⟨[n, 5], [n + 1, 3], [s, 15], _, rfl, ⟨rfl, rfl, by simp, by simp, fun x hx => Pos.of (h1 x hx).1 (by have := h1 x hx; omega), fun x hx => Pos.of (h2 x hx).1 (by have := h2 x hx; omega), fun x hx => Pos.of (h3 x hx).1 (by have := h3 x hx; omega)⟩, by simp, h1, h2, h3, ?_, ?_⟩
    · rw [fs, ← hs]
      by_cases z : j = 0 <;> simp [z]
      omega
    · (try simp -implicitDefEqProofs -dsimp)
      exact hR _
  · rintro i δ hi ⟨c2, c3, c4, c5, c6, c7, c8, c9, c10, c11, c12, rfl⟩ K B T hK
    simp -implicitDefEqProofs -dsimp [w_law_3]
    refine ask_draw (by omega) (by omega) fun n0 n1 n2 => ?_
    obtain ⟨n, hn, nl, nh⟩ : ∃ n : Nat, 1 + n0 = (n : Int) ∧ 1 ≤ n ∧ n ≤ 4 := ⟨(1 + n0).toNat, by omega⟩
    simp -implicitDefEqProofs -dsimp [hn]
    refine ask_of (sp := sp_Lone) ⟨a1, a2, a3, _, _, rfl, rfl, by simp, by simp, fun x hx => ?_⟩
    have hx : ∃ k : Int, x = .int k ∧ 1 ≤ k ∧ k ≤ 9 := by
      simp only [List.mem_cons, List.not_mem_nil, or_false] at hx
      rcases hx with rfl | rfl
      · exact ⟨_, rfl, by omega⟩
      · exact ⟨_, rfl, by omega⟩
    obtain ⟨k, rfl, k1, k2⟩ := hx
    (try simp -implicitDefEqProofs -dsimp)
    refine ask_of (sp := sp_Lpair) ⟨a1, a2, a3, _, _, rfl, by omega, by omega, by omega, by omega, fun p q lp lq hp hq => ?_⟩
    have lp : p.length = n := by rw [lp]; omega
    have lq : q.length = n := by rw [lq]; omega
    have p9 : ∀ x ∈ p, 1 ≤ x ∧ x ≤ 9 := fun x hx => by have := hp x hx; omega
    have q9 : ∀ x ∈ q, 1 ≤ x ∧ x ≤ 9 := fun x hx => by have := hq x hx; omega
    have hp' : In 1000 p := fun x hx => by have := p9 x hx; omega
    have hq' : In 1000 q := fun x hx => by have := q9 x hx; omega
    have hp2 : In (10 ^ 12) p := fun x hx => by have := p9 x hx; omega
    have hq2 : In (10 ^ 12) q := fun x hx => by have := q9 x hx; omega
    have mk : ∀ u v w : List Int, u.length = n → v.length = n → w.length = n → In (10 ^ 12) u → In (10 ^ 12) v → In (10 ^ 12) w → PB u v w := fun u v w lu lv lw hu hv hw => ⟨by omega, by omega, by omega, by omega, fun x hx => Pos.of (hu x hx).1 (by have := hu x hx; omega), fun x hx => Pos.of (hv x hx).1 (by have := hv x hx; omega), fun x hx => Pos.of (hw x hx).1 (by have := hw x hx; omega)⟩
    simp -implicitDefEqProofs -dsimp [CPow]
    refine ask_of (sp := sp_Lbox) ⟨a1, a2, a3, p, q, 9, 10 ^ 6, rfl, ⟨by omega, by omega, by omega, fun x hx => (by have := p9 x hx; omega), fun x hx => (by have := q9 x hx; omega)⟩, fun x hx => by have := p9 x hx; omega, fun x hx => by have := q9 x hx; omega, by omega, by omega, by omega, fun bx lb hb vb => ?_⟩
    have lb : bx.length = n := by omega
    have hb2 : In (10 ^ 12) bx := fun x hx => by have := hb x hx; omega
    have hb6 : In (10 ^ 60) bx := fun x hx => by have := hb x hx; omega
    have pb := mk p q bx lp lq lb hp2 hq2 hb2
    (try simp -implicitDefEqProofs -dsimp)
    refine ask_of (sp := sp_Lfar_filled) ⟨p, q, bx, rfl, pb, hp', hq', hb6, ?_⟩
    (try simp -implicitDefEqProofs -dsimp)
    refine ask_of (sp := sp_Lright) ⟨p, q, bx, _, rfl, pb, by omega, hp2, hq2, hb2, rfl, ?_⟩
    simp -implicitDefEqProofs -dsimp [w_law_t2]
    refine ask_of (sp := sp_Lfar_box) ⟨a1, a2, a3, p, q, rfl, ⟨by omega, by omega, by omega, hp', hq'⟩, fun fs lf hf => ?_⟩
    (try simp -implicitDefEqProofs -dsimp)
    refine com_map fs PyData.int rfl (fun x => some (.int (if x < 10 ^ 12 then x else 10 ^ 12))) (fun x hx acc K3 hK3 => ?_) ?_
    · simp -implicitDefEqProofs -dsimp [CPow]
      exact hK3
    · obtain ⟨gs, hgs⟩ : ∃ gs, (fs.map fun x => if x < 10 ^ 12 then x else 10 ^ 12) = gs := ⟨_, rfl⟩
      have lg : gs.length = n := by rw [← hgs, List.length_map]; omega
      have hg : In (10 ^ 12) gs := fun x hx => by
        rw [← hgs] at hx
        obtain ⟨y, hy, rfl⟩ := List.mem_map.mp hx
        have := hf y hy
        split <;> omega
      have hg6 : In (10 ^ 60) gs := fun x hx => by have := hg x hx; omega
      have e0 : List.filterMap (fun x : Int => some (PyData.int (if x < 10 ^ 12 then x else 10 ^ 12))) fs = lI gs := by
        rw [← hgs]
        unfold lI
        rw [List.map_map]; simp [Function.comp_def]
      rw [e0]
      have pg := mk p q gs lp lq lg hp2 hq2 hg
      (try simp -implicitDefEqProofs -dsimp)
      refine ask_of (sp := sp_Lfar_filled) ⟨p, q, gs, rfl, pg, hp', hq', hg6, ?_⟩
      (try simp -implicitDefEqProofs -dsimp)
      refine ask_of (sp := sp_Lright) ⟨p, q, gs, _, rfl, pg, by omega, hp2, hq2, hg, rfl, ?_⟩
      simp -implicitDefEqProofs -dsimp [w_law_t1, CPow]
      refine ask_draw (by omega) (by omega) fun t0 t1 t2 => ?_
      obtain ⟨t, ht, tl, th⟩ : ∃ t : Int, 1 + t0 = t ∧ 1 ≤ t ∧ t ≤ 10000 := ⟨_, rfl, by omega, by omega⟩
      simp -implicitDefEqProofs -dsimp [ht]
      refine com_map [p, q] tI rfl (fun u => some (tI (u.map (· * t)))) (fun u hu acc K4 hK4 => ?_) ?_
      · have u9 : ∀ x ∈ u, 1 ≤ x ∧ x ≤ 9 := by
          simp only [List.mem_cons, List.not_mem_nil, or_false] at hu
          rcases hu with rfl | rfl
          · exact p9
          · exact q9
        (try simp -implicitDefEqProofs -dsimp)
        refine com_map u PyData.int rfl (fun x => some (.int (x * t))) (fun x hx acc2 K5 hK5 => ?_) ?_
        · have := u9 x hx
          (try simp -implicitDefEqProofs -dsimp)
          exact ⟨.inl (.inl ⟨by omega, by omega⟩), hK5⟩
        · have e1 : List.filterMap (fun x : Int => some (PyData.int (x * t))) u = lI (u.map (· * t)) := by
            unfold lI
            rw [List.map_map]; simp [Function.comp_def]
          rw [e1]
          revert hK4
          generalize u.map (· * t) = v
          intro hK4
          simp -implicitDefEqProofs -dsimp [keep2]
          exact hK4
      · have e2 : List.filterMap (fun u : List Int => some (tI (u.map (· * t)))) [p, q] = [tI (p.map (· * t)), tI (q.map (· * t))] := rfl
        rw [e2]
        (try simp -implicitDefEqProofs -dsimp)
        refine com_map bx PyData.int rfl (fun x => some (.int (x * t))) (fun x hx acc2 K5 hK5 => ?_) ?_
        · have := hb x hx
          (try simp -implicitDefEqProofs -dsimp)
          exact ⟨.inl (.inl ⟨by omega, by omega⟩), hK5⟩
        · have e1 : List.filterMap (fun x : Int => some (PyData.int (x * t))) bx = lI (bx.map (· * t)) := by
            unfold lI
            rw [List.map_map]; simp [Function.comp_def]
          rw [e1]
          have wl : ∀ u : List Int, u.length = n → (u.map (· * t)).length = n := fun u h => by rw [List.length_map]; exact h
          have wi : ∀ u : List Int, (∀ x ∈ u, 1 ≤ x ∧ x ≤ 10 ^ 6) → In (10 ^ 12) (u.map (· * t)) := fun u h z hz => by
            obtain ⟨x, hx, rfl⟩ := List.mem_map.mp hz
            have hx := h x hx
            have h1 := Int.mul_le_mul hx.1 tl (by omega) (by omega)
            have h2 := Int.mul_le_mul hx.2 th (by omega) (by omega)
            omega
          have wp := wi p fun x hx => by have := p9 x hx; omega
          have wq := wi q fun x hx => by have := q9 x hx; omega
          have wb := wi bx fun x hx => by have := hb x hx; omega
          have sc : fillB (p.map (· * t)) (q.map (· * t)) (bx.map (· * t)) = fillB p q bx := fill_scale (by simp) fun i hi => by
            rw [List.length_map] at hi
            exact ⟨t, tl, ⟨wide_gi (by omega), (hp2 _ (gi_mem (by omega))).1⟩, ⟨wide_gi (by omega), (hq2 _ (gi_mem (by omega))).1⟩, wide_gi hi⟩
          have pw := mk _ _ _ (wl p lp) (wl q lq) (wl bx lb) wp wq wb
          have l4 : (bx.map (· * t)).length ≤ 4 := by rw [wl bx lb]; exact nh
          obtain ⟨p', h1⟩ : ∃ p', p.map (· * t) = p' := ⟨_, rfl⟩
          obtain ⟨q', h2⟩ : ∃ p', q.map (· * t) = p' := ⟨_, rfl⟩
          obtain ⟨bx', h3⟩ : ∃ p', bx.map (· * t) = p' := ⟨_, rfl⟩
          rw [h1] at sc pw wp ⊢
          rw [h2] at sc pw wq ⊢
          rw [h3] at sc pw wb l4 ⊢
          (try simp -implicitDefEqProofs -dsimp)
          refine ask_of (sp := sp_Lfar_filled) ⟨p, q, bx, rfl, pb, hp', hq', hb6, ?_⟩
          (try simp -implicitDefEqProofs -dsimp)
          refine ask_of (sp := sp_Lright) ⟨p', q', bx', _, rfl, pw, l4, wp, wq, wb, sc.symm, ?_⟩
          (try simp -implicitDefEqProofs -dsimp)
          exact hK _ ⟨_, _, _, _, _, _, _, _, _, _, _, rfl⟩
end K66
set_option Elab.async false
set_option linter.all false
set_option maxRecDepth 100000
set_option maxHeartbeats 4000000
namespace K66
open PySem PySem.Spec PyProof.Rows L2 DL TW
variable [DL.Tb]
def topS (i : Nat) : Stmt := PySem.Challenge.pw_twobricks_k66_plans_for_boxes.main.body.getD i (.Pass ⟨0, 0, 0, 0⟩)
abbrev s_Ldeck : Stmt := topS 20
theorem sc_Ldeck : FnScope ["_law_script", "_law_cells", "_law_cell"] ["_law_script"] (defScope s_Ldeck) := ⟨rfl, rfl, rfl, by decide +kernel, rfl, by decide +kernel, by decide +kernel⟩
abbrev s_Ldraw : Stmt := topS 21
theorem sc_Ldraw : FnScope ["_law_deck_here", "_law_many", "_law_rest", "_law_cell", "_law_mixed"] ["_law_deck_here", "_law_many"] (defScope s_Ldraw) := ⟨rfl, rfl, rfl, by decide +kernel, rfl, by decide +kernel, by decide +kernel⟩
abbrev s_Lone : Stmt := topS 22
theorem sc_Lone : FnScope ["_law_deck_here", "_law_items"] ["_law_deck_here", "_law_items"] (defScope s_Lone) := ⟨rfl, rfl, rfl, by decide +kernel, rfl, by decide +kernel, by decide +kernel⟩
abbrev s_Lsides : Stmt := topS 26
theorem sc_Lsides : FnScope ["_law_deck_here", "_law_axes", "_law_most", "_law_axis"] ["_law_deck_here", "_law_axes", "_law_most"] (defScope s_Lsides) := ⟨rfl, rfl, rfl, by decide +kernel, rfl, by decide +kernel, by decide +kernel⟩
abbrev s_Lpair : Stmt := topS 27
theorem sc_Lpair : FnScope ["_law_deck_here", "_law_axes", "_law_most", "_law_one_here", "_law_other", "_law_at"] ["_law_deck_here", "_law_axes", "_law_most"] (defScope s_Lpair) := ⟨rfl, rfl, rfl, by decide +kernel, rfl, by decide +kernel, by decide +kernel⟩
abbrev s_Lvolume : Stmt := topS 23
theorem sc_Lvolume : FnScope ["_law_sides_here", "_law_found", "_law_side"] ["_law_sides_here"] (defScope s_Lvolume) := ⟨rfl, rfl, rfl, by decide +kernel, rfl, by decide +kernel, by decide +kernel⟩
abbrev s_Ldivisor : Stmt := topS 24
theorem sc_Ldivisor : FnScope ["_law_one_here", "_law_other"] ["_law_one_here", "_law_other"] (defScope s_Ldivisor) := ⟨rfl, rfl, rfl, by decide +kernel, rfl, by decide +kernel, by decide +kernel⟩
abbrev s_Llcm : Stmt := topS 28
theorem sc_Llcm : FnScope ["_law_one_here", "_law_other"] ["_law_one_here", "_law_other"] (defScope s_Llcm) := ⟨rfl, rfl, rfl, by decide +kernel, rfl, by decide +kernel, by decide +kernel⟩
abbrev s_Lcut_box : Stmt := topS 29
theorem sc_Lcut_box : FnScope ["_law_deck_here", "_law_pair_here", "_law_many", "_law_axis", "_law_found", "_law_k"] ["_law_deck_here", "_law_pair_here", "_law_many"] (defScope s_Lcut_box) := ⟨rfl, rfl, rfl, by decide +kernel, rfl, by decide +kernel, by decide +kernel⟩
abbrev s_Lplain_box : Stmt := topS 30
theorem sc_Lplain_box : FnScope ["_law_deck_here", "_law_pair_here", "_law_many", "_law_brick", "_law_side"] ["_law_deck_here", "_law_pair_here", "_law_many"] (defScope s_Lplain_box) := ⟨rfl, rfl, rfl, by decide +kernel, rfl, by decide +kernel, by decide +kernel⟩
abbrev s_Lbox : Stmt := topS 31
theorem sc_Lbox : FnScope ["_law_deck_here", "_law_pair_here", "_law_most", "_law_cells", "_law_turn", "_law_way", "_law_found", "_law_at", "_law_near"] ["_law_deck_here", "_law_pair_here", "_law_most", "_law_cells"] (defScope s_Lbox) := ⟨rfl, rfl, rfl, by decide +kernel, rfl, by decide +kernel, by decide +kernel⟩
abbrev s_Lrests : Stmt := topS 32
theorem sc_Lrests : FnScope ["_law_brick", "_law_box_here", "_law_axis"] ["_law_brick", "_law_box_here"] (defScope s_Lrests) := ⟨rfl, rfl, rfl, by decide +kernel, rfl, by decide +kernel, by decide +kernel⟩
abbrev s_Lfar_sum : Stmt := topS 38
theorem sc_Lfar_sum : FnScope ["_law_side", "_law_one_here", "_law_other", "_law_k"] ["_law_side", "_law_one_here", "_law_other"] (defScope s_Lfar_sum) := ⟨rfl, rfl, rfl, by decide +kernel, rfl, by decide +kernel, by decide +kernel⟩
abbrev s_Lfar_filled : Stmt := topS 39
theorem sc_Lfar_filled : FnScope ["_law_pair_here", "_law_box_here", "_law_one_here", "_law_other"] ["_law_pair_here", "_law_box_here"] (defScope s_Lfar_filled) := ⟨rfl, rfl, rfl, by decide +kernel, rfl, by decide +kernel, by decide +kernel⟩
abbrev s_Lfar_box : Stmt := topS 40
theorem sc_Lfar_box : FnScope ["_law_deck_here", "_law_pair_here", "_law_way", "_law_found", "_law_one_here", "_law_other", "_law_great", "_law_at", "_law_brick", "_law_side"] ["_law_deck_here", "_law_pair_here"] (defScope s_Lfar_box) := ⟨rfl, rfl, rfl, by decide +kernel, rfl, by decide +kernel, by decide +kernel⟩
abbrev s_common : Stmt := topS 1
theorem sc_common : FnScope ["one", "other"] ["one", "other"] (defScope s_common) := ⟨rfl, rfl, rfl, by decide +kernel, rfl, by decide +kernel, by decide +kernel⟩
abbrev s_inverse : Stmt := topS 2
theorem sc_inverse : FnScope ["one", "other", "left", "right", "now", "later", "times"] ["one", "other"] (defScope s_inverse) := ⟨rfl, rfl, rfl, by decide +kernel, rfl, by decide +kernel, by decide +kernel⟩
abbrev s_least_times : Stmt := topS 3
theorem sc_least_times : FnScope ["one", "other", "side", "part"] ["one", "other", "side"] (defScope s_least_times) := ⟨rfl, rfl, rfl, by decide +kernel, rfl, by decide +kernel, by decide +kernel⟩
abbrev s_rests : Stmt := topS 9
theorem sc_rests : FnScope ["brick", "box", "axis", "side"] ["brick", "box"] (defScope s_rests) := ⟨rfl, rfl, rfl, by decide +kernel, rfl, by decide +kernel, by decide +kernel⟩
abbrev s_bar_along : Stmt := topS 10
theorem sc_bar_along : FnScope ["pair", "box", "axis", "one", "other", "side", "times", "more"] ["pair", "box", "axis"] (defScope s_bar_along) := ⟨rfl, rfl, rfl, by decide +kernel, rfl, by decide +kernel, by decide +kernel⟩
abbrev s_crossing : Stmt := topS 11
theorem sc_crossing : FnScope ["pair", "box", "found", "i", "j"] ["pair", "box"] (defScope s_crossing) := ⟨rfl, rfl, rfl, by decide +kernel, rfl, by decide +kernel, by decide +kernel⟩
abbrev s_paper : Stmt := topS 12
theorem sc_paper : FnScope ["pair", "box", "kind", "brick", "crossed", "axis", "bar"] ["pair", "box"] (defScope s_paper) := ⟨rfl, rfl, rfl, by decide +kernel, rfl, by decide +kernel, by decide +kernel⟩
abbrev s_is_filled : Stmt := topS 13
theorem sc_is_filled : FnScope ["pair", "box"] ["pair", "box"] (defScope s_is_filled) := ⟨rfl, rfl, rfl, by decide +kernel, rfl, by decide +kernel, by decide +kernel⟩
abbrev s_with_side : Stmt := topS 15
theorem sc_with_side : FnScope ["box", "axis", "side"] ["box", "axis", "side"] (defScope s_with_side) := ⟨rfl, rfl, rfl, by decide +kernel, rfl, by decide +kernel, by decide +kernel⟩
abbrev s_Builder_init : Stmt := clsS (topS 16) 0
theorem sc_Builder_init : FnScope ["self"] ["self"] (defScope s_Builder_init) := ⟨rfl, rfl, rfl, by decide +kernel, rfl, by decide +kernel, by decide +kernel⟩
abbrev s_Builder_add : Stmt := clsS (topS 16) 1
theorem sc_Builder_add : FnScope ["self", "row"] ["self", "row"] (defScope s_Builder_add) := ⟨rfl, rfl, rfl, by decide +kernel, rfl, by decide +kernel, by decide +kernel⟩
abbrev s_Builder_repeated : Stmt := clsS (topS 16) 2
theorem sc_Builder_repeated : FnScope ["self", "axis", "index", "count", "found"] ["self", "axis", "index", "count"] (defScope s_Builder_repeated) := ⟨rfl, rfl, rfl, by decide +kernel, rfl, by decide +kernel, by decide +kernel⟩
abbrev s_Builder_block : Stmt := clsS (topS 16) 3
theorem sc_Builder_block : FnScope ["self", "kind", "counts", "index", "axis", "count"] ["self", "kind", "counts"] (defScope s_Builder_block) := ⟨rfl, rfl, rfl, by decide +kernel, rfl, by decide +kernel, by decide +kernel⟩
abbrev s_counts_in : Stmt := topS 17
theorem sc_counts_in : FnScope ["brick", "box", "side", "own"] ["brick", "box"] (defScope s_counts_in) := ⟨rfl, rfl, rfl, by decide +kernel, rfl, by decide +kernel, by decide +kernel⟩
abbrev s_plan_for : Stmt := topS 18
theorem sc_plan_for : FnScope ["pair", "box", "builder", "kind", "counts", "axis", "at", "side", "times", "first", "second"] ["pair", "box"] (defScope s_plan_for) := ⟨rfl, rfl, rfl, by decide +kernel, rfl, by decide +kernel, by decide +kernel⟩
abbrev s_Lwhole : Stmt := topS 25
theorem sc_Lwhole : FnScope ["_law_value", "_law_least", "_law_most"] ["_law_value", "_law_least", "_law_most"] (defScope s_Lwhole) := ⟨rfl, rfl, rfl, by decide +kernel, rfl, by decide +kernel, by decide +kernel⟩
abbrev s_Lis_row : Stmt := topS 33
theorem sc_Lis_row : FnScope ["_law_kinds", "_law_value", "_law_index"] ["_law_kinds", "_law_value", "_law_index"] (defScope s_Lis_row) := ⟨rfl, rfl, rfl, by decide +kernel, rfl, by decide +kernel, by decide +kernel⟩
abbrev s_Lput : Stmt := topS 34
theorem sc_Lput : FnScope ["_law_one_here", "_law_other", "_law_axis", "_law_k"] ["_law_one_here", "_law_other", "_law_axis"] (defScope s_Lput) := ⟨rfl, rfl, rfl, by decide +kernel, rfl, by decide +kernel, by decide +kernel⟩
abbrev s_Lplan_error : Stmt := topS 35
theorem sc_Lplan_error : FnScope ["_law_kinds", "_law_value", "_law_boxes", "_law_index", "_law_row", "_law_box_here"] ["_law_kinds", "_law_value"] (defScope s_Lplan_error) := ⟨rfl, rfl, rfl, by decide +kernel, rfl, by decide +kernel, by decide +kernel⟩
abbrev s_Lplan_boxes : Stmt := topS 36
theorem sc_Lplan_boxes : FnScope ["_law_kinds", "_law_plan", "_law_found", "_law_row"] ["_law_kinds", "_law_plan"] (defScope s_Lplan_boxes) := ⟨rfl, rfl, rfl, by decide +kernel, rfl, by decide +kernel, by decide +kernel⟩
abbrev s_Lplan_bricks : Stmt := topS 37
theorem sc_Lplan_bricks : FnScope ["_law_kinds", "_law_plan", "_law_found", "_law_row", "_law_kind", "_law_one_here", "_law_other"] ["_law_kinds", "_law_plan"] (defScope s_Lplan_bricks) := ⟨rfl, rfl, rfl, by decide +kernel, rfl, by decide +kernel, by decide +kernel⟩
abbrev s_Lright : Stmt := topS 41
theorem sc_Lright : FnScope ["_law_pair_here", "_law_box_here", "_law_due", "_law_told", "_law_one_here", "_law_other"] ["_law_pair_here", "_law_box_here", "_law_due"] (defScope s_Lright) := ⟨rfl, rfl, rfl, by decide +kernel, rfl, by decide +kernel, by decide +kernel⟩
abbrev s_law : Stmt := topS 42
theorem sc_law : FnScope ["_law_script", "_law_deck_here", "_law_turn", "_law_axes", "_law_pair_here", "_law_box_here", "_law_great", "_law_side", "_law_times", "_law_wide", "_law_brick", "_law_far", "_law_one_here"] ["_law_script"] (defScope s_law) := ⟨rfl, rfl, rfl, by decide +kernel, rfl, by decide +kernel, by decide +kernel⟩
set_option maxHeartbeats 0 in
theorem ok_Ldeck {P : Program} {w : World} {K : PySem.W.Frag} {mg : Str → Option Value} {base : Heap} {f : Addr} {fd : FuncData} (F : Fun K "_law_deck" "_law_deck" s_Ldeck f fd) (z_abs : mg "abs" = none) (z_len : mg "len" = none) : FnG P w K mg base CX0 1 f fd ["_law_script"] (liftM K spDeck) := by
  have nd := sc_Ldeck.nd
  refine ok_deck F sc_Ldeck rfl rfl rfl (fun cdv A outer s H E hr => ?_) (fun cdv A outer s H E hr => ?_)
  · exact (js_setCL (i := 1) (own := [("_law_cell", 2)]) rfl nd rfl rfl (sw_true rfl rfl rfl (by decide +kernel)) (ji_seq (je_cut (jpv 0))) (blkOk_by (by kernel_rfl)) (by decide) (fun _ _ _ _ _ => (jgn 2 nd)) (fun _ _ _ _ _ => jts_nil) (fun _ _ _ _ _ => je_fn c_abs rfl z_abs boot_abs (ja_cons (jv 2) ja_nil)))
  · exact (jms_cons (jm_l (jl_comp (own := [("_law_cell", 2)]) rfl nd (ji_seq (jv 1)) (blkOk_by (by kernel_rfl)) (by decide) (fun _ _ _ _ _ => (jgn 2 nd)) (fun _ _ _ _ _ => jts_one (jt_cmp d_ge (jv 2) (je_op d_pow je_int je_int))) (fun _ _ _ _ _ => (jv 2))))
      (jms_cons (jm_l (jl_op d_addL (jv 1) (je_ofL (jl_lst (ja_cons (je_op d_add je_int (je_fn c_len rfl z_len boot_len (ja_cons (jv 1) ja_nil))) ja_nil))))) (jms_cons (jm_e je_int) jms_nil)))
set_option maxHeartbeats 0 in
theorem ok_Ldraw {P : Program} {w : World} {K : PySem.W.Frag} {mg : Str → Option Value} {base : Heap} {f : Addr} {fd : FuncData} (F : Fun K "_law_draw" "_law_draw" s_Ldraw f fd) (z_int : mg "int" = none) (z_len : mg "len" = none) : FnG P w K mg base CX0 1 f fd ["_law_deck_here", "_law_many"] (liftSp K spDraw) := by
  have nd := sc_Ldraw.nd
  refine ok_draw F sc_Ldraw rfl rfl fun cdv A outer s H E hr => ?_
  exact (jss_cons (js_if (jt_kne hr.u64 (jpv 0)) (jss_cons (jset 2 nd (jm_e (je_k00 (jpv 0)))) (jss_cons (js_put00 (jpv 0) (je_op d_div (jv 2) (jv 1)))
      (jss_cons (js_if (jt_cmp (d_eq hr.u64) (je_k00 (jpv 0)) je_int) (jss_one (js_pop0 (jpv 0) rfl (pe_bm PySem.F.plainAttrs_list PySem.F.slot_list_pop PySem.F.type_list_pop mt_popAt (pe_ix ix_list (jpv 0) pe_int (fun _ _ => rfl)) (pa_cons pe_int pa_nil)))) jss_nil)
      (jss_one (js_ret (je_op d_mod (je_ty c_int rfl z_int boot_int (ja_cons (jv 2) ja_nil)) (jv 1))))))) jss_nil)
    (jss_cons (js_put2 (jpv 0) (je_op d_add (je_k2 (jpv 0)) je_int))
    (jss_cons (jset 3 nd (jm_e (je_k1 (jpv 0) (je_op d_mod (je_ty c_int rfl z_int boot_int (ja_cons (je_k2 (jpv 0)) ja_nil)) (je_klen rfl z_len boot_len (jpv 0))) (fun _ _ => rfl))))
    (jss_cons (jset 4 nd (jm_e (je_op d_mod (je_ty c_int rfl z_int boot_int (ja_cons (je_op d_add (je_op d_mod (je_ty c_int rfl z_int boot_int (ja_cons (jv 3) ja_nil)) je_int) (je_op d_mul je_int (je_k2 (jpv 0)))) ja_nil)) je_int)))
    (jss_cons (jset 4 nd (jm_e (je_op d_mod (je_ty c_int rfl z_int boot_int (ja_cons (je_op d_add (je_op d_mul (jv 4) (jv 4)) (je_op d_mul je_int (je_k2 (jpv 0)))) ja_nil)) je_int)))
    (jss_one (js_ret (je_op d_mod (je_op d_div (je_op d_mod (je_ty c_int rfl z_int boot_int (ja_cons (je_op d_mul (jv 4) (jv 4)) ja_nil)) je_int) je_int) (jv 1)))))))))
set_option maxHeartbeats 0 in
theorem ok_Lone {P : Program} {w : World} {K : PySem.W.Frag} {mg : Str → Option Value} {base : Heap} {f : Addr} {fd : FuncData} (F : Fun K "_law_one" "_law_one" s_Lone f fd) (z_len : mg "len" = none) {f_Ldraw : Addr} {fd_Ldraw : FuncData} (F_Ldraw : FnG P w K mg base CX0 1 f_Ldraw fd_Ldraw ["_law_deck_here", "_law_many"] (liftSp K sp_Ldraw)) (g_Ldraw : mg "_law_draw" = some (.ref f_Ldraw)) (k_Ldraw : PySem.W.keepIn K (.ref f_Ldraw) = true) (b_Ldraw : Binds K fd_Ldraw ["_law_deck_here", "_law_many"] []) : FnG P w K mg base CX0 2 f fd ["_law_deck_here", "_law_items"] (liftSp K sp_Lone) := by
  have nd := sc_Lone.nd
  replace F_Ldraw := F_Ldraw.mono (show 1 ≤ 1 by decide)
  refine okD (wb := w_Lone) F sc_Lone ln_Lone (fun cdv A outer s H E hr => ?_) rd_Lone
  exact (jss_one (js_ret (je_ix d_ix (jv 1) (je_call (m := [true, false]) F_Ldraw hr rfl g_Ldraw k_Ldraw b_Ldraw (ja_cons (jv 0) (ja_cons (je_fn c_len rfl z_len boot_len (ja_cons (jv 1) ja_nil)) ja_nil))) (fun _ _ => rfl))))
set_option maxHeartbeats 0 in
theorem ok_Lsides {P : Program} {w : World} {K : PySem.W.Frag} {mg : Str → Option Value} {base : Heap} {f : Addr} {fd : FuncData} (F : Fun K "_law_sides" "_law_sides" s_Lsides f fd) (z_range : mg "range" = none) (z_tuple : mg "tuple" = none) {f_Ldraw : Addr} {fd_Ldraw : FuncData} (F_Ldraw : FnG P w K mg base CX0 1 f_Ldraw fd_Ldraw ["_law_deck_here", "_law_many"] (liftSp K sp_Ldraw)) (g_Ldraw : mg "_law_draw" = some (.ref f_Ldraw)) (k_Ldraw : PySem.W.keepIn K (.ref f_Ldraw) = true) (b_Ldraw : Binds K fd_Ldraw ["_law_deck_here", "_law_many"] []) : FnG P w K mg base CX0 2 f fd ["_law_deck_here", "_law_axes", "_law_most"] (liftSp K sp_Lsides) := by
  have nd := sc_Lsides.nd
  replace F_Ldraw := F_Ldraw.mono (show 1 ≤ 1 by decide)
  refine okD (wb := w_Lsides) F sc_Lsides ln_Lsides (fun cdv A outer s H E hr => ?_) rd_Lsides
  exact (jss_one (js_ret (je_ty c_tup rfl z_tuple boot_tuple (ja_cons (je_ofL (jl_comp (own := [("_law_axis", 3)]) rfl nd (ji_range1 rfl z_range (ja_cons (jv 1) ja_nil)) (blkOk_by (by kernel_rfl)) (by decide) (fun _ _ _ _ _ => (jgn 3 nd)) (fun _ _ _ _ _ => jts_nil) (fun _ _ _ _ _ => (je_op d_addB je_int (je_call (m := [true, false]) F_Ldraw hr rfl g_Ldraw k_Ldraw b_Ldraw (ja_cons (jv 0) (ja_cons (jv 2) ja_nil))))))) ja_nil))))
set_option maxHeartbeats 0 in
theorem ok_Lpair {P : Program} {w : World} {K : PySem.W.Frag} {mg : Str → Option Value} {base : Heap} {f : Addr} {fd : FuncData} (F : Fun K "_law_pair" "_law_pair" s_Lpair f fd) {f_Ldraw : Addr} {fd_Ldraw : FuncData} (F_Ldraw : FnG P w K mg base CX0 1 f_Ldraw fd_Ldraw ["_law_deck_here", "_law_many"] (liftSp K sp_Ldraw)) (g_Ldraw : mg "_law_draw" = some (.ref f_Ldraw)) (k_Ldraw : PySem.W.keepIn K (.ref f_Ldraw) = true) (b_Ldraw : Binds K fd_Ldraw ["_law_deck_here", "_law_many"] []) {f_Lsides : Addr} {fd_Lsides : FuncData} (F_Lsides : FnG P w K mg base CX0 2 f_Lsides fd_Lsides ["_law_deck_here", "_law_axes", "_law_most"] (liftSp K sp_Lsides)) (g_Lsides : mg "_law_sides" = some (.ref f_Lsides)) (k_Lsides : PySem.W.keepIn K (.ref f_Lsides) = true) (b_Lsides : Binds K fd_Lsides ["_law_deck_here", "_law_axes", "_law_most"] []) : FnG P w K mg base CX0 3 f fd ["_law_deck_here", "_law_axes", "_law_most"] (liftSp K sp_Lpair) := by
  have nd := sc_Lpair.nd
  replace F_Ldraw := F_Ldraw.mono (show 1 ≤ 2 by decide)
  replace F_Lsides := F_Lsides.mono (show 2 ≤ 2 by decide)
  refine okD (wb := w_Lpair) F sc_Lpair ln_Lpair (fun cdv A outer s H E hr => ?_) rd_Lpair
  exact (jss_cons (jpar (i := 3) (j := 4) rfl nd rfl rfl (by decide) (jms_cons (jm_e (je_call (m := [true, false, false]) F_Lsides hr rfl g_Lsides k_Lsides b_Lsides (ja_cons (jv 0) (ja_cons (jv 1) (ja_cons (jv 2) ja_nil))))) (jms_cons (jm_e (je_call (m := [true, false, false]) F_Lsides hr rfl g_Lsides k_Lsides b_Lsides (ja_cons (jv 0) (ja_cons (jv 1) (ja_cons (jv 2) ja_nil))))) jms_nil)))
    (jss_cons (js_if (jt_cmp (d_eq hr.u64) (je_call (m := [true, false]) F_Ldraw hr rfl g_Ldraw k_Ldraw b_Ldraw (ja_cons (jv 0) (ja_cons je_int ja_nil))) je_int) (jss_cons (jset 5 nd (jm_e (je_call (m := [true, false]) F_Ldraw hr rfl g_Ldraw k_Ldraw b_Ldraw (ja_cons (jv 0) (ja_cons (jv 1) ja_nil)))))
    (jss_one (jset 4 nd (jm_e (je_op d_addB (je_op d_addB (je_sl d_sl (jv 3) jo_none (jo_some (jv 5))) (je_tup (ja_cons (je_op d_addB je_int (je_call (m := [true, false]) F_Ldraw hr rfl g_Ldraw k_Ldraw b_Ldraw (ja_cons (jv 0) (ja_cons (jv 2) ja_nil)))) ja_nil))) (je_sl d_sl (jv 3) (jo_some (je_op d_addB (jv 5) je_int)) jo_none)))))) jss_nil)
    (jss_one (js_ret (je_tup (ja_cons (jv 3) (ja_cons (jv 4) ja_nil)))))))
set_option maxHeartbeats 0 in
theorem ok_Lvolume {P : Program} {w : World} {K : PySem.W.Frag} {mg : Str → Option Value} {base : Heap} {f : Addr} {fd : FuncData} (F : Fun K "_law_volume" "_law_volume" s_Lvolume f fd)  : FnG P w K mg base CX0 1 f fd ["_law_sides_here"] (liftSp K sp_Lvolume) := by
  have nd := sc_Lvolume.nd
  refine okD (wb := w_Lvolume) F sc_Lvolume ln_Lvolume (fun cdv A outer s H E hr => ?_) rd_Lvolume
  exact (jss_cons (jset 1 nd (jm_e je_int))
    (jss_cons (js_for PassesOwn.never rfl (ji_seq (jv 0)) (jgn 2 nd) (jss_one (jset 1 nd (jm_e (je_op d_mulT (jv 1) (jv 2))))))
    (jss_one (js_ret (jv 1)))))
set_option maxHeartbeats 0 in
theorem ok_Ldivisor {P : Program} {w : World} {K : PySem.W.Frag} {mg : Str → Option Value} {base : Heap} {f : Addr} {fd : FuncData} (F : Fun K "_law_divisor" "_law_divisor" s_Ldivisor f fd)  : FnG P w K mg base CX0 1 f fd ["_law_one_here", "_law_other"] (liftSp K sp_common) := by
  have nd := sc_Ldivisor.nd
  refine okD (wb := w_common) F sc_Ldivisor ln_common (fun cdv A outer s H E hr => ?_) rd_common
  exact (jss_cons (js_while PassesOwn.never (jt_cmp d_gt (jv 1) je_int) (jss_one (jpar (i := 0) (j := 1) rfl nd rfl rfl (by decide) (jms_cons (jm_e (jv 1)) (jms_cons (jm_e (je_op d_mod (jv 0) (jv 1))) jms_nil)))))
    (jss_one (js_ret (jv 0))))
set_option maxHeartbeats 0 in
theorem ok_Llcm {P : Program} {w : World} {K : PySem.W.Frag} {mg : Str → Option Value} {base : Heap} {f : Addr} {fd : FuncData} (F : Fun K "_law_lcm" "_law_lcm" s_Llcm f fd) {f_Ldivisor : Addr} {fd_Ldivisor : FuncData} (F_Ldivisor : FnG P w K mg base CX0 1 f_Ldivisor fd_Ldivisor ["_law_one_here", "_law_other"] (liftSp K sp_common)) (g_Ldivisor : mg "_law_divisor" = some (.ref f_Ldivisor)) (k_Ldivisor : PySem.W.keepIn K (.ref f_Ldivisor) = true) (b_Ldivisor : Binds K fd_Ldivisor ["_law_one_here", "_law_other"] []) : FnG P w K mg base CX0 2 f fd ["_law_one_here", "_law_other"] (liftSp K sp_Llcm) := by
  have nd := sc_Llcm.nd
  replace F_Ldivisor := F_Ldivisor.mono (show 1 ≤ 1 by decide)
  refine okD (wb := w_Llcm) F sc_Llcm ln_Llcm (fun cdv A outer s H E hr => ?_) rd_Llcm
  exact (jss_one (js_ret (je_op d_div (je_op d_mulT (jv 0) (jv 1)) (je_call (m := []) F_Ldivisor hr rfl g_Ldivisor k_Ldivisor b_Ldivisor (ja_cons (jv 0) (ja_cons (jv 1) ja_nil))))))
set_option maxHeartbeats 0 in
theorem ok_Lcut_box {P : Program} {w : World} {K : PySem.W.Frag} {mg : Str → Option Value} {base : Heap} {f : Addr} {fd : FuncData} (F : Fun K "_law_cut_box" "_law_cut_box" s_Lcut_box f fd) (z_tuple : mg "tuple" = none) (z_len : mg "len" = none) (z_range : mg "range" = none) {f_Ldraw : Addr} {fd_Ldraw : FuncData} (F_Ldraw : FnG P w K mg base CX0 1 f_Ldraw fd_Ldraw ["_law_deck_here", "_law_many"] (liftSp K sp_Ldraw)) (g_Ldraw : mg "_law_draw" = some (.ref f_Ldraw)) (k_Ldraw : PySem.W.keepIn K (.ref f_Ldraw) = true) (b_Ldraw : Binds K fd_Ldraw ["_law_deck_here", "_law_many"] []) {f_Llcm : Addr} {fd_Llcm : FuncData} (F_Llcm : FnG P w K mg base CX0 2 f_Llcm fd_Llcm ["_law_one_here", "_law_other"] (liftSp K sp_Llcm)) (g_Llcm : mg "_law_lcm" = some (.ref f_Llcm)) (k_Llcm : PySem.W.keepIn K (.ref f_Llcm) = true) (b_Llcm : Binds K fd_Llcm ["_law_one_here", "_law_other"] []) : FnG P w K mg base CX0 3 f fd ["_law_deck_here", "_law_pair_here", "_law_many"] (liftSp K sp_Lcut_box) := by
  have nd := sc_Lcut_box.nd
  replace F_Ldraw := F_Ldraw.mono (show 1 ≤ 2 by decide)
  replace F_Llcm := F_Llcm.mono (show 2 ≤ 2 by decide)
  refine okD (wb := w_Lcut_box) F sc_Lcut_box ln_Lcut_box (fun cdv A outer s H E hr => ?_) rd_Lcut_box
  exact (jss_cons (jpar (i := 3) (j := 4) rfl nd rfl rfl (by decide) (jms_cons (jm_e (je_call (m := [true, false]) F_Ldraw hr rfl g_Ldraw k_Ldraw b_Ldraw (ja_cons (jv 0) (ja_cons (je_fn c_len rfl z_len boot_len (ja_cons (je_ix d_ix (jv 1) je_int (fun _ _ => rfl)) ja_nil)) ja_nil)))) (jms_cons (jm_l (jl_lst ja_nil)) jms_nil)))
    (jss_cons (js_for PassesOwn.never rfl (ji_range1 rfl z_range (ja_cons (je_fn c_len rfl z_len boot_len (ja_cons (je_ix d_ix (jv 1) je_int (fun _ _ => rfl)) ja_nil)) ja_nil)) (jgn 5 nd) (jss_one (js_append (jpv 4) (je_call (m := []) F_Llcm hr rfl g_Llcm k_Llcm b_Llcm (ja_cons (je_ix d_ix (je_ix d_ix (jv 1) je_int (fun _ _ => rfl)) (jv 5) (fun _ _ => rfl)) (ja_cons (je_ix d_ix (je_ix d_ix (jv 1) je_int (fun _ _ => rfl)) (jv 5) (fun _ _ => rfl)) ja_nil))) rfl rfl (pe_bm PySem.F.plainAttrs_list PySem.F.slot_list_append PySem.F.type_list_append mt_append (jpv 4) (pa_cons (je_call (m := []) F_Llcm hr rfl g_Llcm k_Llcm b_Llcm (ja_cons (je_ix d_ix (je_ix d_ix (jv 1) je_int (fun _ _ => rfl)) (jv 5) (fun _ _ => rfl)) (ja_cons (je_ix d_ix (je_ix d_ix (jv 1) je_int (fun _ _ => rfl)) (jv 5) (fun _ _ => rfl)) ja_nil))) pa_nil)))))
    (jss_cons (js_put (jv 3) (je_op d_addB (je_op d_mulT (je_ix d_ix (je_ix d_ix (jv 1) je_int (fun _ _ => rfl)) (jv 3) (fun _ _ => rfl)) (je_call (m := [true, false]) F_Ldraw hr rfl g_Ldraw k_Ldraw b_Ldraw (ja_cons (jv 0) (ja_cons (jv 2) ja_nil)))) (je_op d_mulT (je_ix d_ix (je_ix d_ix (jv 1) je_int (fun _ _ => rfl)) (jv 3) (fun _ _ => rfl)) (je_op d_addB je_int (je_call (m := [true, false]) F_Ldraw hr rfl g_Ldraw k_Ldraw b_Ldraw (ja_cons (jv 0) (ja_cons (jv 2) ja_nil)))))) (ps_asg (je_op d_addB (je_op d_mulT (je_ix d_ix (je_ix d_ix (jv 1) je_int (fun _ _ => rfl)) (jv 3) (fun _ _ => rfl)) (je_call (m := [true, false]) F_Ldraw hr rfl g_Ldraw k_Ldraw b_Ldraw (ja_cons (jv 0) (ja_cons (jv 2) ja_nil)))) (je_op d_mulT (je_ix d_ix (je_ix d_ix (jv 1) je_int (fun _ _ => rfl)) (jv 3) (fun _ _ => rfl)) (je_op d_addB je_int (je_call (m := [true, false]) F_Ldraw hr rfl g_Ldraw k_Ldraw b_Ldraw (ja_cons (jv 0) (ja_cons (jv 2) ja_nil)))))) (pg_sub (jpv 4) (jv 3) set_list)))
    (jss_one (js_ret (je_ty c_tup rfl z_tuple boot_tuple (ja_cons (jv 4) ja_nil)))))))
set_option maxHeartbeats 0 in
theorem ok_Lplain_box {P : Program} {w : World} {K : PySem.W.Frag} {mg : Str → Option Value} {base : Heap} {f : Addr} {fd : FuncData} (F : Fun K "_law_plain_box" "_law_plain_box" s_Lplain_box f fd) (z_tuple : mg "tuple" = none) (z_list : mg "list" = none) {f_Ldraw : Addr} {fd_Ldraw : FuncData} (F_Ldraw : FnG P w K mg base CX0 1 f_Ldraw fd_Ldraw ["_law_deck_here", "_law_many"] (liftSp K sp_Ldraw)) (g_Ldraw : mg "_law_draw" = some (.ref f_Ldraw)) (k_Ldraw : PySem.W.keepIn K (.ref f_Ldraw) = true) (b_Ldraw : Binds K fd_Ldraw ["_law_deck_here", "_law_many"] []) {f_Lone : Addr} {fd_Lone : FuncData} (F_Lone : FnG P w K mg base CX0 2 f_Lone fd_Lone ["_law_deck_here", "_law_items"] (liftSp K sp_Lone)) (g_Lone : mg "_law_one" = some (.ref f_Lone)) (k_Lone : PySem.W.keepIn K (.ref f_Lone) = true) (b_Lone : Binds K fd_Lone ["_law_deck_here", "_law_items"] []) : FnG P w K mg base CX0 3 f fd ["_law_deck_here", "_law_pair_here", "_law_many"] (liftSp K sp_Lplain_box) := by
  have nd := sc_Lplain_box.nd
  replace F_Ldraw := F_Ldraw.mono (show 1 ≤ 2 by decide)
  replace F_Lone := F_Lone.mono (show 2 ≤ 2 by decide)
  refine okD (wb := w_Lplain_box) F sc_Lplain_box ln_Lplain_box (fun cdv A outer s H E hr => ?_) rd_Lplain_box
  exact (jss_cons (jset 3 nd (jm_e (je_call (m := [true, false]) F_Lone hr rfl g_Lone k_Lone b_Lone (ja_cons (jv 0) (ja_cons (je_ofL (jl_ty c_lst rfl z_list boot_list (ja_cons (jv 1) ja_nil))) ja_nil)))))
    (jss_one (js_ret (je_ty c_tup rfl z_tuple boot_tuple (ja_cons (je_ofL (jl_comp (own := [("_law_side", 4)]) rfl nd (ji_seq (jv 3)) (blkOk_by (by kernel_rfl)) (by decide) (fun _ _ _ _ _ => (jgn 4 nd)) (fun _ _ _ _ _ => jts_nil) (fun _ _ _ _ _ => (je_op d_mulT (jv 4) (je_op d_addB je_int (je_call (m := [true, false]) F_Ldraw hr rfl g_Ldraw k_Ldraw b_Ldraw (ja_cons (jv 0) (ja_cons (jv 2) ja_nil)))))))) ja_nil)))))
set_option maxHeartbeats 0 in
theorem ok_Lbox {P : Program} {w : World} {K : PySem.W.Frag} {mg : Str → Option Value} {base : Heap} {f : Addr} {fd : FuncData} (F : Fun K "_law_box" "_law_box" s_Lbox f fd) (z_len : mg "len" = none) (z_range : mg "range" = none) (z_max : mg "max" = none) {f_Lvolume : Addr} {fd_Lvolume : FuncData} (F_Lvolume : FnG P w K mg base CX0 1 f_Lvolume fd_Lvolume ["_law_sides_here"] (liftSp K sp_Lvolume)) (g_Lvolume : mg "_law_volume" = some (.ref f_Lvolume)) (k_Lvolume : PySem.W.keepIn K (.ref f_Lvolume) = true) (b_Lvolume : Binds K fd_Lvolume ["_law_sides_here"] []) {f_Lone : Addr} {fd_Lone : FuncData} (F_Lone : FnG P w K mg base CX0 2 f_Lone fd_Lone ["_law_deck_here", "_law_items"] (liftSp K sp_Lone)) (g_Lone : mg "_law_one" = some (.ref f_Lone)) (k_Lone : PySem.W.keepIn K (.ref f_Lone) = true) (b_Lone : Binds K fd_Lone ["_law_deck_here", "_law_items"] []) {f_Lplain_box : Addr} {fd_Lplain_box : FuncData} (F_Lplain_box : FnG P w K mg base CX0 3 f_Lplain_box fd_Lplain_box ["_law_deck_here", "_law_pair_here", "_law_many"] (liftSp K sp_Lplain_box)) (g_Lplain_box : mg "_law_plain_box" = some (.ref f_Lplain_box)) (k_Lplain_box : PySem.W.keepIn K (.ref f_Lplain_box) = true) (b_Lplain_box : Binds K fd_Lplain_box ["_law_deck_here", "_law_pair_here", "_law_many"] []) {f_Lcut_box : Addr} {fd_Lcut_box : FuncData} (F_Lcut_box : FnG P w K mg base CX0 3 f_Lcut_box fd_Lcut_box ["_law_deck_here", "_law_pair_here", "_law_many"] (liftSp K sp_Lcut_box)) (g_Lcut_box : mg "_law_cut_box" = some (.ref f_Lcut_box)) (k_Lcut_box : PySem.W.keepIn K (.ref f_Lcut_box) = true) (b_Lcut_box : Binds K fd_Lcut_box ["_law_deck_here", "_law_pair_here", "_law_many"] []) {f_Ldraw : Addr} {fd_Ldraw : FuncData} (F_Ldraw : FnG P w K mg base CX0 1 f_Ldraw fd_Ldraw ["_law_deck_here", "_law_many"] (liftSp K sp_Ldraw)) (g_Ldraw : mg "_law_draw" = some (.ref f_Ldraw)) (k_Ldraw : PySem.W.keepIn K (.ref f_Ldraw) = true) (b_Ldraw : Binds K fd_Ldraw ["_law_deck_here", "_law_many"] []) {f_Lsides : Addr} {fd_Lsides : FuncData} (F_Lsides : FnG P w K mg base CX0 2 f_Lsides fd_Lsides ["_law_deck_here", "_law_axes", "_law_most"] (liftSp K sp_Lsides)) (g_Lsides : mg "_law_sides" = some (.ref f_Lsides)) (k_Lsides : PySem.W.keepIn K (.ref f_Lsides) = true) (b_Lsides : Binds K fd_Lsides ["_law_deck_here", "_law_axes", "_law_most"] []) : FnG P w K mg base CX0 4 f fd ["_law_deck_here", "_law_pair_here", "_law_most", "_law_cells"] (liftSp K sp_Lbox) := by
  have nd := sc_Lbox.nd
  replace F_Lvolume := F_Lvolume.mono (show 1 ≤ 3 by decide)
  replace F_Lone := F_Lone.mono (show 2 ≤ 3 by decide)
  replace F_Lplain_box := F_Lplain_box.mono (show 3 ≤ 3 by decide)
  replace F_Lcut_box := F_Lcut_box.mono (show 3 ≤ 3 by decide)
  replace F_Ldraw := F_Ldraw.mono (show 1 ≤ 3 by decide)
  replace F_Lsides := F_Lsides.mono (show 2 ≤ 3 by decide)
  refine okD (wb := w_Lbox) F sc_Lbox ln_Lbox (fun cdv A outer s H E hr => ?_) rd_Lbox
  exact (jss_cons (js_for PassesOwn.never rfl (ji_range1 rfl z_range (ja_cons je_int ja_nil)) (jgn 4 nd) (jss_cons (jset 5 nd (jm_e (je_call (m := [true, false]) F_Ldraw hr rfl g_Ldraw k_Ldraw b_Ldraw (ja_cons (jv 0) (ja_cons je_int ja_nil)))))
    (jss_cons (jset 6 nd (jm_e (je_call (m := [true, false, false]) F_Lsides hr rfl g_Lsides k_Lsides b_Lsides (ja_cons (jv 0) (ja_cons (je_fn c_len rfl z_len boot_len (ja_cons (je_ix d_ix (jv 1) je_int (fun _ _ => rfl)) ja_nil)) (ja_cons (jv 2) ja_nil))))))
    (jss_cons (js_if (jt_cmp (d_eq hr.u64) (jv 5) je_int) (jss_one (jset 6 nd (jm_e (je_call (m := [true, false, false]) F_Lcut_box hr rfl g_Lcut_box k_Lcut_box b_Lcut_box (ja_cons (jv 0) (ja_cons (jv 1) (ja_cons je_int ja_nil))))))) jss_nil)
    (jss_cons (js_if (jt_cmp (d_eq hr.u64) (jv 5) je_int) (jss_one (jset 6 nd (jm_e (je_call (m := [true, false, false]) F_Lplain_box hr rfl g_Lplain_box k_Lplain_box b_Lplain_box (ja_cons (jv 0) (ja_cons (jv 1) (ja_cons je_int ja_nil))))))) jss_nil)
    (jss_cons (js_if (jt_cmp (d_eq hr.u64) (jv 5) je_int) (jss_cons (jset 7 nd (jm_e (je_call (m := [true, false]) F_Ldraw hr rfl g_Ldraw k_Ldraw b_Ldraw (ja_cons (jv 0) (ja_cons (je_fn c_len rfl z_len boot_len (ja_cons (jv 6) ja_nil)) ja_nil)))))
    (jss_cons (jset 8 nd (jm_e (je_call (m := [true, false]) F_Lone hr rfl g_Lone k_Lone b_Lone (ja_cons (jv 0) (ja_cons (je_ofL (jl_lst (ja_cons (je_call (m := [true, false, false]) F_Lcut_box hr rfl g_Lcut_box k_Lcut_box b_Lcut_box (ja_cons (jv 0) (ja_cons (jv 1) (ja_cons je_int ja_nil)))) (ja_cons (je_call (m := [true, false, false]) F_Lplain_box hr rfl g_Lplain_box k_Lplain_box b_Lplain_box (ja_cons (jv 0) (ja_cons (jv 1) (ja_cons je_int ja_nil)))) ja_nil)))) ja_nil)))))
    (jss_one (jset 6 nd (jm_e (je_op d_addB (je_op d_addB (je_sl d_sl (jv 8) jo_none (jo_some (jv 7))) (je_tup (ja_cons (je_fn (c_max2 rfl) rfl z_max boot_max (ja_cons je_int (ja_cons (je_op d_addB (je_ix d_ix (jv 8) (jv 7) (fun _ _ => rfl)) (je_call (m := [true, false]) F_Lone hr rfl g_Lone k_Lone b_Lone (ja_cons (jv 0) (ja_cons (je_ofL (jl_lst (ja_cons (je_neg je_int) (ja_cons je_int (ja_cons je_int ja_nil))))) ja_nil)))) ja_nil))) ja_nil))) (je_sl d_sl (jv 8) (jo_some (je_op d_addB (jv 7) je_int)) jo_none))))))) jss_nil)
    (jss_one (js_if (jt_cmp d_le (je_call (m := []) F_Lvolume hr rfl g_Lvolume k_Lvolume b_Lvolume (ja_cons (jv 6) ja_nil)) (jv 3)) (jss_one (js_ret (jv 6))) jss_nil))))))))
    (jss_one (js_ret (je_op d_mulT (je_tup (ja_cons je_int ja_nil)) (je_fn c_len rfl z_len boot_len (ja_cons (je_ix d_ix (jv 1) je_int (fun _ _ => rfl)) ja_nil))))))
set_option maxHeartbeats 0 in
theorem ok_Lrests {P : Program} {w : World} {K : PySem.W.Frag} {mg : Str → Option Value} {base : Heap} {f : Addr} {fd : FuncData} (F : Fun K "_law_rests" "_law_rests" s_Lrests f fd) (z_len : mg "len" = none) (z_range : mg "range" = none) (z_int : mg "int" = none) : FnG P w K mg base CX0 1 f fd ["_law_brick", "_law_box_here"] (liftSp K sp_Lrests) := by
  have nd := sc_Lrests.nd
  refine okD (wb := w_Lrests) F sc_Lrests ln_Lrests (fun cdv A outer s H E hr => ?_) rd_Lrests
  exact (jss_one (js_ret (je_ofL (jl_comp (own := [("_law_axis", 2)]) rfl nd (ji_range1 rfl z_range (ja_cons (je_fn c_len rfl z_len boot_len (ja_cons (jv 1) ja_nil)) ja_nil)) (blkOk_by (by kernel_rfl)) (by decide) (fun _ _ _ _ _ => (jgn 2 nd)) (fun _ _ _ _ _ => (jts_one (jt_cmp (d_ne hr.u64) (je_op d_mod (je_ty c_int rfl z_int boot_int (ja_cons (je_ix d_ix (jv 1) (jv 2) (fun _ _ => rfl)) ja_nil)) (je_ix d_ix (jv 0) (jv 2) (fun _ _ => rfl))) je_int))) (fun _ _ _ _ _ => (jv 2))))))
set_option maxHeartbeats 0 in
theorem ok_Lfar_sum {P : Program} {w : World} {K : PySem.W.Frag} {mg : Str → Option Value} {base : Heap} {f : Addr} {fd : FuncData} (F : Fun K "_law_far_sum" "_law_far_sum" s_Lfar_sum f fd) (z_range : mg "range" = none) (z_int : mg "int" = none) : FnG P w K mg base CX0 1 f fd ["_law_side", "_law_one_here", "_law_other"] (liftSp K sp_Lfar_sum) := by
  have nd := sc_Lfar_sum.nd
  refine okD (wb := w_Lfar_sum) F sc_Lfar_sum ln_Lfar_sum (fun cdv A outer s H E hr => ?_) rd_Lfar_sum
  exact (jss_one (js_ret (je_cmp (d_ne hr.u64) (je_ofL (jl_comp (own := [("_law_k", 3)]) rfl nd (ji_range1 rfl z_range (ja_cons (jv 2) ja_nil)) (blkOk_by (by kernel_rfl)) (by decide) (fun _ _ _ _ _ => (jgn 3 nd)) (fun _ _ _ _ _ => (jts_one (jt_w (jw_and (jt_cmp d_le (je_op d_mulT (jv 3) (jv 1)) (jv 0)) (jw_and1 (jt_cmp (d_eq hr.u64) (je_op d_mod (je_ty c_int rfl z_int boot_int (ja_cons (je_op d_subB (jv 0) (je_op d_mulT (jv 3) (jv 1))) ja_nil)) (jv 2)) je_int)))))) (fun _ _ _ _ _ => (jv 3)))) (je_ofL (jl_lst ja_nil)))))
set_option maxHeartbeats 0 in
theorem ok_Lfar_filled {P : Program} {w : World} {K : PySem.W.Frag} {mg : Str → Option Value} {base : Heap} {f : Addr} {fd : FuncData} (F : Fun K "_law_far_filled" "_law_far_filled" s_Lfar_filled f fd) (z_len : mg "len" = none) {f_Lfar_sum : Addr} {fd_Lfar_sum : FuncData} (F_Lfar_sum : FnG P w K mg base CX0 1 f_Lfar_sum fd_Lfar_sum ["_law_side", "_law_one_here", "_law_other"] (liftSp K sp_Lfar_sum)) (g_Lfar_sum : mg "_law_far_sum" = some (.ref f_Lfar_sum)) (k_Lfar_sum : PySem.W.keepIn K (.ref f_Lfar_sum) = true) (b_Lfar_sum : Binds K fd_Lfar_sum ["_law_side", "_law_one_here", "_law_other"] []) {f_Lrests : Addr} {fd_Lrests : FuncData} (F_Lrests : FnG P w K mg base CX0 1 f_Lrests fd_Lrests ["_law_brick", "_law_box_here"] (liftSp K sp_Lrests)) (g_Lrests : mg "_law_rests" = some (.ref f_Lrests)) (k_Lrests : PySem.W.keepIn K (.ref f_Lrests) = true) (b_Lrests : Binds K fd_Lrests ["_law_brick", "_law_box_here"] []) : FnG P w K mg base CX0 2 f fd ["_law_pair_here", "_law_box_here"] (liftSp K sp_Lfar_filled) := by
  have nd := sc_Lfar_filled.nd
  replace F_Lfar_sum := F_Lfar_sum.mono (show 1 ≤ 1 by decide)
  replace F_Lrests := F_Lrests.mono (show 1 ≤ 1 by decide)
  refine okD (wb := w_Lfar_filled) F sc_Lfar_filled ln_Lfar_filled (fun cdv A outer s H E hr => ?_) rd_Lfar_filled
  exact (jss_cons (jpar (i := 2) (j := 3) rfl nd rfl rfl (by decide) (jms_cons (jm_e (je_call (m := []) F_Lrests hr rfl g_Lrests k_Lrests b_Lrests (ja_cons (je_ix d_ix (jv 0) je_int (fun _ _ => rfl)) (ja_cons (jv 1) ja_nil)))) (jms_cons (jm_e (je_call (m := []) F_Lrests hr rfl g_Lrests k_Lrests b_Lrests (ja_cons (je_ix d_ix (jv 0) je_int (fun _ _ => rfl)) (ja_cons (jv 1) ja_nil)))) jms_nil)))
    (jss_cons (js_if (jt_w (jw_or (jt_cmp (d_eq hr.u64) (jv 2) (je_ofL (jl_lst ja_nil))) (jw_or1 (jt_cmp (d_eq hr.u64) (jv 3) (je_ofL (jl_lst ja_nil)))))) (jss_one (js_ret je_bl)) jss_nil)
    (jss_cons (js_if (jt_w (jw_or (jt_cmp d_gt (je_fn c_len rfl z_len boot_len (ja_cons (jv 2) ja_nil)) je_int) (jw_or1 (jt_cmp (d_ne hr.u64) (jv 2) (jv 3))))) (jss_one (js_ret je_bl)) jss_nil)
    (jss_one (js_ret (je_call (m := []) F_Lfar_sum hr rfl g_Lfar_sum k_Lfar_sum b_Lfar_sum (ja_cons (je_ix d_ix (jv 1) (je_ix d_ix (jv 2) je_int (fun _ _ => rfl)) (fun _ _ => rfl)) (ja_cons (je_ix d_ix (je_ix d_ix (jv 0) je_int (fun _ _ => rfl)) (je_ix d_ix (jv 2) je_int (fun _ _ => rfl)) (fun _ _ => rfl)) (ja_cons (je_ix d_ix (je_ix d_ix (jv 0) je_int (fun _ _ => rfl)) (je_ix d_ix (jv 2) je_int (fun _ _ => rfl)) (fun _ _ => rfl)) ja_nil)))))))))
set_option maxHeartbeats 0 in
theorem ok_Lfar_box {P : Program} {w : World} {K : PySem.W.Frag} {mg : Str → Option Value} {base : Heap} {f : Addr} {fd : FuncData} (F : Fun K "_law_far_box" "_law_far_box" s_Lfar_box f fd) (z_tuple : mg "tuple" = none) (z_zip : mg "zip" = none) (z_list : mg "list" = none) (z_len : mg "len" = none) {f_Ldraw : Addr} {fd_Ldraw : FuncData} (F_Ldraw : FnG P w K mg base CX0 1 f_Ldraw fd_Ldraw ["_law_deck_here", "_law_many"] (liftSp K sp_Ldraw)) (g_Ldraw : mg "_law_draw" = some (.ref f_Ldraw)) (k_Ldraw : PySem.W.keepIn K (.ref f_Ldraw) = true) (b_Ldraw : Binds K fd_Ldraw ["_law_deck_here", "_law_many"] []) {f_Lone : Addr} {fd_Lone : FuncData} (F_Lone : FnG P w K mg base CX0 2 f_Lone fd_Lone ["_law_deck_here", "_law_items"] (liftSp K sp_Lone)) (g_Lone : mg "_law_one" = some (.ref f_Lone)) (k_Lone : PySem.W.keepIn K (.ref f_Lone) = true) (b_Lone : Binds K fd_Lone ["_law_deck_here", "_law_items"] []) {f_Llcm : Addr} {fd_Llcm : FuncData} (F_Llcm : FnG P w K mg base CX0 2 f_Llcm fd_Llcm ["_law_one_here", "_law_other"] (liftSp K sp_Llcm)) (g_Llcm : mg "_law_lcm" = some (.ref f_Llcm)) (k_Llcm : PySem.W.keepIn K (.ref f_Llcm) = true) (b_Llcm : Binds K fd_Llcm ["_law_one_here", "_law_other"] []) : FnG P w K mg base CX0 3 f fd ["_law_deck_here", "_law_pair_here"] (liftSp K sp_Lfar_box) := by
  have nd := sc_Lfar_box.nd
  replace F_Ldraw := F_Ldraw.mono (show 1 ≤ 2 by decide)
  replace F_Lone := F_Lone.mono (show 2 ≤ 2 by decide)
  replace F_Llcm := F_Llcm.mono (show 2 ≤ 2 by decide)
  refine okD (wb := w_Lfar_box) F sc_Lfar_box ln_Lfar_box (fun cdv A outer s H E hr => ?_) rd_Lfar_box
  exact (jss_cons (jpar (i := 2) (j := 3) rfl nd rfl rfl (by decide) (jms_cons (jm_e (je_call (m := [true, false]) F_Ldraw hr rfl g_Ldraw k_Ldraw b_Ldraw (ja_cons (jv 0) (ja_cons je_int ja_nil)))) (jms_cons (jm_l (jl_lst ja_nil)) jms_nil)))
    (jss_cons (js_for PassesOwn.never rfl (ji_zip2 rfl z_zip (ja_cons (je_ix d_ix (jv 1) je_int (fun _ _ => rfl)) (ja_cons (je_ix d_ix (jv 1) je_int (fun _ _ => rfl)) ja_nil))) (jg_tup rfl (jgs_cons (jgn 4 nd) (jgs_cons (jgn 5 nd) jgs_nil)) (gs_lenN (gs_lenN gs_len0))) (jss_cons (jset 6 nd (jm_e (je_op d_addB (je_op d_addB je_int (je_op d_mulT (je_call (m := [true, false]) F_Ldraw hr rfl g_Ldraw k_Ldraw b_Ldraw (ja_cons (jv 0) (ja_cons (je_op d_pow je_int je_int) ja_nil))) (je_op d_pow je_int je_int))) (je_call (m := [true, false]) F_Ldraw hr rfl g_Ldraw k_Ldraw b_Ldraw (ja_cons (jv 0) (ja_cons (je_op d_pow je_int je_int) ja_nil))))))
    (jss_one (js_append (jpv 3) (je_op d_mulT (jv 6) (je_call (m := [true, false]) F_Lone hr rfl g_Lone k_Lone b_Lone (ja_cons (jv 0) (ja_cons (je_ifE (jt_cmp (d_eq hr.u64) (jv 2) je_int) (je_ofL (jl_lst (ja_cons (jv 4) (ja_cons (jv 5) (ja_cons je_int ja_nil))))) (je_ofL (jl_lst (ja_cons (je_call (m := []) F_Llcm hr rfl g_Llcm k_Llcm b_Llcm (ja_cons (jv 4) (ja_cons (jv 5) ja_nil))) ja_nil)))) ja_nil)))) rfl rfl (pe_bm PySem.F.plainAttrs_list PySem.F.slot_list_append PySem.F.type_list_append mt_append (jpv 3) (pa_cons (je_op d_mulT (jv 6) (je_call (m := [true, false]) F_Lone hr rfl g_Lone k_Lone b_Lone (ja_cons (jv 0) (ja_cons (je_ifE (jt_cmp (d_eq hr.u64) (jv 2) je_int) (je_ofL (jl_lst (ja_cons (jv 4) (ja_cons (jv 5) (ja_cons je_int ja_nil))))) (je_ofL (jl_lst (ja_cons (je_call (m := []) F_Llcm hr rfl g_Llcm k_Llcm b_Llcm (ja_cons (jv 4) (ja_cons (jv 5) ja_nil))) ja_nil)))) ja_nil)))) pa_nil))))))
    (jss_cons (js_if (jt_cmp (d_in hr.u65) (jv 2) (je_ofL (jl_lst (ja_cons je_int (ja_cons je_int ja_nil))))) (jss_cons (jset 7 nd (jm_e (je_call (m := [true, false]) F_Ldraw hr rfl g_Ldraw k_Ldraw b_Ldraw (ja_cons (jv 0) (ja_cons (je_fn c_len rfl z_len boot_len (ja_cons (jv 3) ja_nil)) ja_nil)))))
    (jss_one (js_put (jv 7) (je_op d_addB (je_op d_addB (je_ix d_ix (jv 3) (jv 7) (fun _ _ => rfl)) (je_op d_mulT (je_ix d_ix (je_ix d_ix (jv 1) je_int (fun _ _ => rfl)) (jv 7) (fun _ _ => rfl)) (je_call (m := [true, false]) F_Ldraw hr rfl g_Ldraw k_Ldraw b_Ldraw (ja_cons (jv 0) (ja_cons je_int ja_nil))))) (je_op d_mulT (je_ix d_ix (je_ix d_ix (jv 1) je_int (fun _ _ => rfl)) (jv 7) (fun _ _ => rfl)) (je_call (m := [true, false]) F_Ldraw hr rfl g_Ldraw k_Ldraw b_Ldraw (ja_cons (jv 0) (ja_cons je_int ja_nil))))) (ps_asg (je_op d_addB (je_op d_addB (je_ix d_ix (jv 3) (jv 7) (fun _ _ => rfl)) (je_op d_mulT (je_ix d_ix (je_ix d_ix (jv 1) je_int (fun _ _ => rfl)) (jv 7) (fun _ _ => rfl)) (je_call (m := [true, false]) F_Ldraw hr rfl g_Ldraw k_Ldraw b_Ldraw (ja_cons (jv 0) (ja_cons je_int ja_nil))))) (je_op d_mulT (je_ix d_ix (je_ix d_ix (jv 1) je_int (fun _ _ => rfl)) (jv 7) (fun _ _ => rfl)) (je_call (m := [true, false]) F_Ldraw hr rfl g_Ldraw k_Ldraw b_Ldraw (ja_cons (jv 0) (ja_cons je_int ja_nil))))) (pg_sub (jpv 3) (jv 7) set_list))))) jss_nil)
    (jss_cons (js_if (jt_cmp (d_eq hr.u64) (jv 2) je_int) (jss_cons (jset 8 nd (jm_e (je_call (m := [true, false]) F_Lone hr rfl g_Lone k_Lone b_Lone (ja_cons (jv 0) (ja_cons (je_ofL (jl_ty c_lst rfl z_list boot_list (ja_cons (jv 1) ja_nil))) ja_nil)))))
    (jss_cons (js_setCL (i := 3) (own := [("_law_side", 9)]) rfl nd rfl rfl (sw_true rfl rfl rfl (by decide +kernel)) (ji_seq (jv 8)) (blkOk_by (by kernel_rfl)) (by decide) (fun _ _ _ _ _ => (jgn 9 nd)) (fun _ _ _ _ _ => jts_nil) (fun _ _ _ _ _ => (je_op d_addB je_int (je_op d_mulT (je_call (m := [true, false]) F_Ldraw hr rfl g_Ldraw k_Ldraw b_Ldraw (ja_cons (jv 0) (ja_cons (je_op d_pow je_int je_int) ja_nil))) (je_op d_pow je_int je_int)))))
    (jss_one (js_setCL (i := 3) (own := [("_law_great", 6), ("_law_side", 9)]) rfl nd rfl rfl (sw_true rfl rfl rfl (by decide +kernel)) (ji_zip2 rfl z_zip (ja_cons (jv 3) (ja_cons (jv 8) ja_nil))) (blkOk_by (by kernel_rfl)) (by decide) (fun _ _ _ _ _ => (jg_tup rfl (jgs_cons (jgn 6 nd) (jgs_cons (jgn 9 nd) jgs_nil)) (gs_lenN (gs_lenN gs_len0)))) (fun _ _ _ _ _ => jts_nil) (fun _ _ _ _ _ => (je_op d_mulT (jv 6) (jv 9))))))) jss_nil)
    (jss_one (js_ret (je_ty c_tup rfl z_tuple boot_tuple (ja_cons (jv 3) ja_nil))))))))
set_option maxHeartbeats 0 in
theorem ok_common {P : Program} {w : World} {K : PySem.W.Frag} {mg : Str → Option Value} {base : Heap} {f : Addr} {fd : FuncData} (F : Fun K "common" "common" s_common f fd)  : FnG P w K mg base CX0 1 f fd ["one", "other"] (liftSp K sp_common) := by
  have nd := sc_common.nd
  refine okD (wb := w_common) F sc_common ln_common (fun cdv A outer s H E hr => ?_) rd_common
  exact (jss_cons (js_while PassesOwn.never (jt_cmp d_gt (jv 1) je_int) (jss_one (jpar (i := 0) (j := 1) rfl nd rfl rfl (by decide) (jms_cons (jm_e (jv 1)) (jms_cons (jm_e (je_op d_mod (jv 0) (jv 1))) jms_nil)))))
    (jss_one (js_ret (jv 0))))
set_option maxHeartbeats 0 in
theorem ok_inverse {P : Program} {w : World} {K : PySem.W.Frag} {mg : Str → Option Value} {base : Heap} {f : Addr} {fd : FuncData} (F : Fun K "inverse" "inverse" s_inverse f fd)  : FnG P w K mg base CX0 1 f fd ["one", "other"] (liftSp K sp_inverse) := by
  have nd := sc_inverse.nd
  refine okD (wb := w_inverse) F sc_inverse ln_inverse (fun cdv A outer s H E hr => ?_) rd_inverse
  exact (jss_cons (js_asgG (je_tup (ja_cons (je_op d_mod (jv 0) (jv 1)) (ja_cons (jv 1) (ja_cons je_int (ja_cons je_int ja_nil))))) (jg_tup rfl (jgs_cons (jgn 2 nd) (jgs_cons (jgn 3 nd) (jgs_cons (jgn 4 nd) (jgs_cons (jgn 5 nd) jgs_nil)))) (gs_lenN (gs_lenN (gs_lenN (gs_lenN gs_len0))))))
    (jss_cons (js_while PassesOwn.never (jt_cmp d_gt (jv 2) je_int) (jss_cons (jset 6 nd (jm_e (je_op d_div (jv 3) (jv 2))))
    (jss_cons (jpar (i := 2) (j := 3) rfl nd rfl rfl (by decide) (jms_cons (jm_e (je_op d_subB (jv 3) (je_op d_mulT (jv 6) (jv 2)))) (jms_cons (jm_e (jv 2)) jms_nil)))
    (jss_one (jpar (i := 4) (j := 5) rfl nd rfl rfl (by decide) (jms_cons (jm_e (je_op d_subB (jv 5) (je_op d_mulT (jv 6) (jv 4)))) (jms_cons (jm_e (jv 4)) jms_nil)))))))
    (jss_one (js_ret (je_op d_mod (jv 5) (jv 1))))))
set_option maxHeartbeats 0 in
theorem ok_least_times {P : Program} {w : World} {K : PySem.W.Frag} {mg : Str → Option Value} {base : Heap} {f : Addr} {fd : FuncData} (F : Fun K "least_times" "least_times" s_least_times f fd) {f_inverse : Addr} {fd_inverse : FuncData} (F_inverse : FnG P w K mg base CX0 1 f_inverse fd_inverse ["one", "other"] (liftSp K sp_inverse)) (g_inverse : mg "inverse" = some (.ref f_inverse)) (k_inverse : PySem.W.keepIn K (.ref f_inverse) = true) (b_inverse : Binds K fd_inverse ["one", "other"] []) {f_common : Addr} {fd_common : FuncData} (F_common : FnG P w K mg base CX0 1 f_common fd_common ["one", "other"] (liftSp K sp_common)) (g_common : mg "common" = some (.ref f_common)) (k_common : PySem.W.keepIn K (.ref f_common) = true) (b_common : Binds K fd_common ["one", "other"] []) : FnG P w K mg base CX0 2 f fd ["one", "other", "side"] (liftSp K sp_least_times) := by
  have nd := sc_least_times.nd
  replace F_inverse := F_inverse.mono (show 1 ≤ 1 by decide)
  replace F_common := F_common.mono (show 1 ≤ 1 by decide)
  refine okD (wb := w_least_times) F sc_least_times ln_least_times (fun cdv A outer s H E hr => ?_) rd_least_times
  exact (jss_cons (jset 3 nd (jm_e (je_call (m := []) F_common hr rfl g_common k_common b_common (ja_cons (jv 0) (ja_cons (jv 1) ja_nil)))))
    (jss_cons (js_if (jt_cmp (d_ne hr.u64) (je_op d_mod (jv 2) (jv 3)) je_int) (jss_one (js_ret je_non)) jss_nil)
    (jss_one (js_ret (je_op d_mod (je_op d_mulT (je_op d_div (jv 2) (jv 3)) (je_call (m := []) F_inverse hr rfl g_inverse k_inverse b_inverse (ja_cons (je_op d_div (jv 0) (jv 3)) (ja_cons (je_op d_div (jv 1) (jv 3)) ja_nil)))) (je_op d_div (jv 1) (jv 3)))))))
set_option maxHeartbeats 0 in
theorem ok_rests {P : Program} {w : World} {K : PySem.W.Frag} {mg : Str → Option Value} {base : Heap} {f : Addr} {fd : FuncData} (F : Fun K "rests" "rests" s_rests f fd) (z_enumerate : mg "enumerate" = none) : FnG P w K mg base CX0 1 f fd ["brick", "box"] (liftSp K sp_rests) := by
  have nd := sc_rests.nd
  refine okD (wb := w_rests) F sc_rests ln_rests (fun cdv A outer s H E hr => ?_) rd_rests
  exact (jss_one (js_ret (je_ofL (jl_comp (own := [("axis", 2), ("side", 3)]) rfl nd (ji_enum rfl z_enumerate (ja_cons (jv 1) ja_nil)) (blkOk_by (by kernel_rfl)) (by decide) (fun _ _ _ _ _ => (jg_tup rfl (jgs_cons (jgn 2 nd) (jgs_cons (jgn 3 nd) jgs_nil)) (gs_lenN (gs_lenN gs_len0)))) (fun _ _ _ _ _ => (jts_one (jt_cmp (d_ne hr.u64) (je_op d_mod (jv 3) (je_ix d_ix (jv 0) (jv 2) (fun _ _ => rfl))) je_int))) (fun _ _ _ _ _ => (jv 2))))))
set_option maxHeartbeats 0 in
theorem ok_bar_along {P : Program} {w : World} {K : PySem.W.Frag} {mg : Str → Option Value} {base : Heap} {f : Addr} {fd : FuncData} (F : Fun K "bar_along" "bar_along" s_bar_along f fd) {t_GAP : Tok} (c_GAP : mg "GAP" = some (.str "gap" t_GAP)) {t_STEP : Tok} (c_STEP : mg "STEP" = some (.str "step" t_STEP)) {f_least_times : Addr} {fd_least_times : FuncData} (F_least_times : FnG P w K mg base CX0 2 f_least_times fd_least_times ["one", "other", "side"] (liftSp K sp_least_times)) (g_least_times : mg "least_times" = some (.ref f_least_times)) (k_least_times : PySem.W.keepIn K (.ref f_least_times) = true) (b_least_times : Binds K fd_least_times ["one", "other", "side"] []) : FnG P w K mg base CX0 3 f fd ["pair", "box", "axis"] (liftSp K sp_bar_along) := by
  have nd := sc_bar_along.nd
  replace F_least_times := F_least_times.mono (show 2 ≤ 2 by decide)
  refine okD (wb := w_bar_along) F sc_bar_along ln_bar_along (fun cdv A outer s H E hr => ?_) rd_bar_along
  exact (jss_cons (jpar3 (i := 3) (j := 4) (l := 5) rfl nd rfl rfl rfl (by decide) (by decide) (by decide) (jms_cons (jm_e (je_ix d_ix (je_ix d_ix (jv 0) je_int (fun _ _ => rfl)) (jv 2) (fun _ _ => rfl))) (jms_cons (jm_e (je_ix d_ix (je_ix d_ix (jv 0) je_int (fun _ _ => rfl)) (jv 2) (fun _ _ => rfl))) (jms_cons (jm_e (je_ix d_ix (jv 1) (jv 2) (fun _ _ => rfl))) jms_nil))))
    (jss_cons (jset 6 nd (jm_e (je_call (m := []) F_least_times hr rfl g_least_times k_least_times b_least_times (ja_cons (jv 3) (ja_cons (jv 4) (ja_cons (jv 5) ja_nil))))))
    (jss_cons (js_if (jt_cmp d_is (jv 6) je_non) (jss_one (js_ret (je_tup (ja_cons (je_glob (v := .str "step") rfl c_STEP ⟨_, rfl⟩ (fun _ _ => .str _)) (ja_cons (jv 2) ja_nil))))) jss_nil)
    (jss_cons (jset 7 nd (jm_e (je_op d_subB (je_op d_mulT (jv 3) (jv 6)) (jv 5))))
    (jss_one (js_ret (je_ifE (jt_cmp d_gt (jv 7) je_int) (je_tup (ja_cons (je_glob (v := .str "gap") rfl c_GAP ⟨_, rfl⟩ (fun _ _ => .str _)) (ja_cons (jv 2) (ja_cons (jv 6) (ja_cons (je_op d_div (jv 7) (jv 4)) ja_nil))))) je_non)))))))
set_option maxHeartbeats 0 in
theorem ok_crossing {P : Program} {w : World} {K : PySem.W.Frag} {mg : Str → Option Value} {base : Heap} {f : Addr} {fd : FuncData} (F : Fun K "crossing" "crossing" s_crossing f fd) {t_SIDES : Tok} (c_SIDES : mg "SIDES" = some (.str "sides" t_SIDES)) {f_rests : Addr} {fd_rests : FuncData} (F_rests : FnG P w K mg base CX0 1 f_rests fd_rests ["brick", "box"] (liftSp K sp_rests)) (g_rests : mg "rests" = some (.ref f_rests)) (k_rests : PySem.W.keepIn K (.ref f_rests) = true) (b_rests : Binds K fd_rests ["brick", "box"] []) : FnG P w K mg base CX0 2 f fd ["pair", "box"] (liftSp K sp_crossing) := by
  have nd := sc_crossing.nd
  replace F_rests := F_rests.mono (show 1 ≤ 1 by decide)
  refine okD (wb := w_crossing) F sc_crossing ln_crossing (fun cdv A outer s H E hr => ?_) rd_crossing
  exact (jss_cons (jset 2 nd (jm_l (jl_lst ja_nil)))
    (jss_cons (js_for PassesOwn.never rfl (ji_seq (je_call (m := []) F_rests hr rfl g_rests k_rests b_rests (ja_cons (je_ix d_ix (jv 0) je_int (fun _ _ => rfl)) (ja_cons (jv 1) ja_nil)))) (jgn 3 nd) (jss_one (js_extend (jpv 2) (je_ofL (jl_comp (own := [("j", 4)]) rfl nd (ji_seq (je_call (m := []) F_rests hr rfl g_rests k_rests b_rests (ja_cons (je_ix d_ix (jv 0) je_int (fun _ _ => rfl)) (ja_cons (jv 1) ja_nil)))) (blkOk_by (by kernel_rfl)) (by decide) (fun _ _ _ _ _ => (jgn 4 nd)) (fun _ _ _ _ _ => (jts_one (jt_cmp (d_ne hr.u64) (jv 3) (jv 4)))) (fun _ _ _ _ _ => (je_tup (ja_cons (je_glob (v := .str "sides") rfl c_SIDES ⟨_, rfl⟩ (fun _ _ => .str _)) (ja_cons (jv 3) (ja_cons (jv 4) ja_nil))))))) rfl rfl (pe_bm PySem.F.plainAttrs_list PySem.F.slot_list_extend PySem.F.type_list_extend mt_extend (jpv 2) (pa_cons (je_ofL (jl_comp (own := [("j", 4)]) rfl nd (ji_seq (je_call (m := []) F_rests hr rfl g_rests k_rests b_rests (ja_cons (je_ix d_ix (jv 0) je_int (fun _ _ => rfl)) (ja_cons (jv 1) ja_nil)))) (blkOk_by (by kernel_rfl)) (by decide) (fun _ _ _ _ _ => (jgn 4 nd)) (fun _ _ _ _ _ => (jts_one (jt_cmp (d_ne hr.u64) (jv 3) (jv 4)))) (fun _ _ _ _ _ => (je_tup (ja_cons (je_glob (v := .str "sides") rfl c_SIDES ⟨_, rfl⟩ (fun _ _ => .str _)) (ja_cons (jv 3) (ja_cons (jv 4) ja_nil))))))) pa_nil)))))
    (jss_one (js_ret (jv 2)))))
set_option maxHeartbeats 0 in
theorem ok_paper {P : Program} {w : World} {K : PySem.W.Frag} {mg : Str → Option Value} {base : Heap} {f : Addr} {fd : FuncData} (F : Fun K "paper" "paper" s_paper f fd) (z_enumerate : mg "enumerate" = none) {t_CUT : Tok} (c_CUT : mg "CUT" = some (.str "cut" t_CUT)) {f_least_times : Addr} {fd_least_times : FuncData} (F_least_times : FnG P w K mg base CX0 2 f_least_times fd_least_times ["one", "other", "side"] (liftSp K sp_least_times)) (g_least_times : mg "least_times" = some (.ref f_least_times)) (k_least_times : PySem.W.keepIn K (.ref f_least_times) = true) (b_least_times : Binds K fd_least_times ["one", "other", "side"] []) {f_bar_along : Addr} {fd_bar_along : FuncData} (F_bar_along : FnG P w K mg base CX0 3 f_bar_along fd_bar_along ["pair", "box", "axis"] (liftSp K sp_bar_along)) (g_bar_along : mg "bar_along" = some (.ref f_bar_along)) (k_bar_along : PySem.W.keepIn K (.ref f_bar_along) = true) (b_bar_along : Binds K fd_bar_along ["pair", "box", "axis"] []) {f_rests : Addr} {fd_rests : FuncData} (F_rests : FnG P w K mg base CX0 1 f_rests fd_rests ["brick", "box"] (liftSp K sp_rests)) (g_rests : mg "rests" = some (.ref f_rests)) (k_rests : PySem.W.keepIn K (.ref f_rests) = true) (b_rests : Binds K fd_rests ["brick", "box"] []) {f_crossing : Addr} {fd_crossing : FuncData} (F_crossing : FnG P w K mg base CX0 2 f_crossing fd_crossing ["pair", "box"] (liftSp K sp_crossing)) (g_crossing : mg "crossing" = some (.ref f_crossing)) (k_crossing : PySem.W.keepIn K (.ref f_crossing) = true) (b_crossing : Binds K fd_crossing ["pair", "box"] []) : FnG P w K mg base CX0 4 f fd ["pair", "box"] (liftSp K sp_paper) := by
  have nd := sc_paper.nd
  replace F_least_times := F_least_times.mono (show 2 ≤ 3 by decide)
  replace F_bar_along := F_bar_along.mono (show 3 ≤ 3 by decide)
  replace F_rests := F_rests.mono (show 1 ≤ 3 by decide)
  replace F_crossing := F_crossing.mono (show 2 ≤ 3 by decide)
  refine okD (wb := w_paper) F sc_paper ln_paper (fun cdv A outer s H E hr => ?_) rd_paper
  exact (jss_cons (js_for PassesOwn.never rfl (ji_enum rfl z_enumerate (ja_cons (jv 0) ja_nil)) (jg_tup rfl (jgs_cons (jgn 2 nd) (jgs_cons (jgn 3 nd) jgs_nil)) (gs_lenN (gs_lenN gs_len0))) (jss_one (js_if (jt_cmp (d_eq hr.u64) (je_call (m := []) F_rests hr rfl g_rests k_rests b_rests (ja_cons (jv 3) (ja_cons (jv 1) ja_nil))) (je_ofL (jl_lst ja_nil))) (jss_one (js_ret (je_tup (ja_cons (je_glob (v := .str "cut") rfl c_CUT ⟨_, rfl⟩ (fun _ _ => .str _)) (ja_cons (jv 2) (ja_cons je_int (ja_cons (je_ix d_ix (jv 1) je_int (fun _ _ => rfl)) ja_nil))))))) jss_nil)))
    (jss_cons (jset 4 nd (jm_e (je_call (m := []) F_crossing hr rfl g_crossing k_crossing b_crossing (ja_cons (jv 0) (ja_cons (jv 1) ja_nil)))))
    (jss_cons (js_if (jt_cmp (d_ne hr.u64) (jv 4) (je_ofL (jl_lst ja_nil))) (jss_one (js_ret (je_ix d_ix (jv 4) je_int (fun _ _ => rfl)))) jss_nil)
    (jss_cons (jset 5 nd (jm_e (je_ix d_ix (je_call (m := []) F_rests hr rfl g_rests k_rests b_rests (ja_cons (je_ix d_ix (jv 0) je_int (fun _ _ => rfl)) (ja_cons (jv 1) ja_nil))) je_int (fun _ _ => rfl))))
    (jss_cons (jset 6 nd (jm_e (je_call (m := []) F_bar_along hr rfl g_bar_along k_bar_along b_bar_along (ja_cons (jv 0) (ja_cons (jv 1) (ja_cons (jv 5) ja_nil))))))
    (jss_cons (js_if (jt_cmp d_isnot (jv 6) je_non) (jss_one (js_ret (jv 6))) jss_nil)
    (jss_one (js_ret (je_tup (ja_cons (je_glob (v := .str "cut") rfl c_CUT ⟨_, rfl⟩ (fun _ _ => .str _)) (ja_cons je_int (ja_cons (jv 5) (ja_cons (je_op d_mulT (je_ix d_ix (je_ix d_ix (jv 0) je_int (fun _ _ => rfl)) (jv 5) (fun _ _ => rfl)) (je_call (m := []) F_least_times hr rfl g_least_times k_least_times b_least_times (ja_cons (je_ix d_ix (je_ix d_ix (jv 0) je_int (fun _ _ => rfl)) (jv 5) (fun _ _ => rfl)) (ja_cons (je_ix d_ix (je_ix d_ix (jv 0) je_int (fun _ _ => rfl)) (jv 5) (fun _ _ => rfl)) (ja_cons (je_ix d_ix (jv 1) (jv 5) (fun _ _ => rfl)) ja_nil))))) ja_nil)))))))))))))
set_option maxHeartbeats 0 in
theorem ok_is_filled {P : Program} {w : World} {K : PySem.W.Frag} {mg : Str → Option Value} {base : Heap} {f : Addr} {fd : FuncData} (F : Fun K "is_filled" "is_filled" s_is_filled f fd) {t_CUT : Tok} (c_CUT : mg "CUT" = some (.str "cut" t_CUT)) {f_paper : Addr} {fd_paper : FuncData} (F_paper : FnG P w K mg base CX0 4 f_paper fd_paper ["pair", "box"] (liftSp K sp_paper)) (g_paper : mg "paper" = some (.ref f_paper)) (k_paper : PySem.W.keepIn K (.ref f_paper) = true) (b_paper : Binds K fd_paper ["pair", "box"] []) : FnG P w K mg base CX0 5 f fd ["pair", "box"] (liftSp K sp_is_filled) := by
  have nd := sc_is_filled.nd
  replace F_paper := F_paper.mono (show 4 ≤ 4 by decide)
  refine okD (wb := w_is_filled) F sc_is_filled ln_is_filled (fun cdv A outer s H E hr => ?_) rd_is_filled
  exact (jss_one (js_ret (je_cmp (d_eq hr.u64) (je_ix d_ix (je_call (m := []) F_paper hr rfl g_paper k_paper b_paper (ja_cons (jv 0) (ja_cons (jv 1) ja_nil))) je_int (fun _ _ => rfl)) (je_glob (v := .str "cut") rfl c_CUT ⟨_, rfl⟩ (fun _ _ => .str _)))))
set_option maxHeartbeats 0 in
theorem ok_with_side {P : Program} {w : World} {K : PySem.W.Frag} {mg : Str → Option Value} {base : Heap} {f : Addr} {fd : FuncData} (F : Fun K "with_side" "with_side" s_with_side f fd)  : FnG P w K mg base CX0 1 f fd ["box", "axis", "side"] (liftSp K sp_Lwith) := by
  have nd := sc_with_side.nd
  refine okD (wb := w_Lwith) F sc_with_side ln_Lwith (fun cdv A outer s H E hr => ?_) rd_Lwith
  exact (jss_one (js_ret (je_op d_addB (je_op d_addB (je_sl d_sl (jv 0) jo_none (jo_some (jv 1))) (je_tup (ja_cons (jv 2) ja_nil))) (je_sl d_sl (jv 0) (jo_some (je_op d_addB (jv 1) je_int)) jo_none))))
set_option maxHeartbeats 0 in
theorem ok_Builder_init {P : Program} {w : World} {K : PySem.W.Frag} {mg : Str → Option Value} {base : Heap} {f : Addr} {fd : FuncData} (F : Fun K "__init__" "Builder.__init__" s_Builder_init f fd) {C_Builder : Addr} (ob_Builder : ObjK K "Builder" C_Builder) (na_Builder_rows : NoAttr K C_Builder "rows") : FnG P w K mg base CX0 1 f fd ["self"] (liftSp K sp_Builder_init) := by
  have nd := sc_Builder_init.nd
  refine okD (wb := w_Builder_init) F sc_Builder_init ln_Builder_init (fun cdv A outer s H E hr => ?_) rd_Builder_init
  exact (jss_one (js_buNew ob_Builder.at_ na_Builder_rows (jpv 0)))
set_option maxHeartbeats 0 in
theorem ok_Builder_add {P : Program} {w : World} {K : PySem.W.Frag} {mg : Str → Option Value} {base : Heap} {f : Addr} {fd : FuncData} (F : Fun K "add" "Builder.add" s_Builder_add f fd) {C_Builder : Addr} (ob_Builder : ObjK K "Builder" C_Builder) (na_Builder_rows : NoAttr K C_Builder "rows") (z_len : mg "len" = none) : FnG P w K mg base CX0 1 f fd ["self", "row"] (liftSp K sp_Builder_add) := by
  have nd := sc_Builder_add.nd
  refine okD (wb := w_Builder_add) F sc_Builder_add ln_Builder_add (fun cdv A outer s H E hr => ?_) rd_Builder_add
  exact (jss_cons (js_buApp (pe_bm PySem.F.plainAttrs_list PySem.F.slot_list_append PySem.F.type_list_append mt_append (pe_buL ob_Builder.at_ na_Builder_rows (jpv 0)) (pa_cons (jv 1) pa_nil)))
    (jss_one (js_ret (je_op d_subB (je_buFn ob_Builder.at_ na_Builder_rows (jpv 0) c_len rfl z_len boot_len) je_int))))
set_option maxHeartbeats 0 in
theorem ok_Builder_repeated {P : Program} {w : World} {K : PySem.W.Frag} {mg : Str → Option Value} {base : Heap} {f : Addr} {fd : FuncData} (F : Fun K "repeated" "Builder.repeated" s_Builder_repeated f fd) {C_Builder : Addr} (ob_Builder : ObjK K "Builder" C_Builder) {f_Builder_add : Addr} {fd_Builder_add : FuncData} (F_Builder_add : FnG P w K mg base CX0 1 f_Builder_add fd_Builder_add ["self", "row"] (liftSp K sp_Builder_add)) (mt_Builder_add : Meth K C_Builder "add" f_Builder_add) (b_Builder_add : Binds K fd_Builder_add ["self", "row"] []) : FnG P w K mg base CX0 2 f fd ["self", "axis", "index", "count"] (liftSp K sp_Builder_repeated) := by
  have nd := sc_Builder_repeated.nd
  replace F_Builder_add := F_Builder_add.mono (show 1 ≤ 1 by decide)
  refine okD (wb := w_Builder_repeated) F sc_Builder_repeated ln_Builder_repeated (fun cdv A outer s H E hr => ?_) rd_Builder_repeated
  exact (jss_cons (jset 4 nd (jm_e je_non))
    (jss_cons (js_while PassesOwn.never (jt_cmp d_gt (jv 3) je_int) (jss_cons (js_if (jt_cmp (d_eq hr.u64) (je_op d_mod (jv 3) je_int) je_int) (jss_one (jset 4 nd (jm_e (je_ifE (jt_cmp d_is (jv 4) je_non) (jv 2) (je_methM (m := [true, false]) ob_Builder.at_ ob_Builder.cl mt_Builder_add F_Builder_add hr b_Builder_add (jv 0) (ja_cons (je_tup (ja_cons (jv 1) (ja_cons (jv 4) (ja_cons (jv 2) ja_nil)))) ja_nil)))))) jss_nil)
    (jss_cons (jaug 3 nd je_int d_idiv)
    (jss_one (js_if (jt_cmp d_gt (jv 3) je_int) (jss_one (jset 2 nd (jm_e (je_methM (m := [true, false]) ob_Builder.at_ ob_Builder.cl mt_Builder_add F_Builder_add hr b_Builder_add (jv 0) (ja_cons (je_tup (ja_cons (jv 1) (ja_cons (jv 2) (ja_cons (jv 2) ja_nil)))) ja_nil))))) jss_nil)))))
    (jss_one (js_ret (jv 4)))))
set_option maxHeartbeats 0 in
theorem ok_Builder_block {P : Program} {w : World} {K : PySem.W.Frag} {mg : Str → Option Value} {base : Heap} {f : Addr} {fd : FuncData} (F : Fun K "block" "Builder.block" s_Builder_block f fd) {C_Builder : Addr} (ob_Builder : ObjK K "Builder" C_Builder) (z_enumerate : mg "enumerate" = none) {f_Builder_repeated : Addr} {fd_Builder_repeated : FuncData} (F_Builder_repeated : FnG P w K mg base CX0 2 f_Builder_repeated fd_Builder_repeated ["self", "axis", "index", "count"] (liftSp K sp_Builder_repeated)) (mt_Builder_repeated : Meth K C_Builder "repeated" f_Builder_repeated) (b_Builder_repeated : Binds K fd_Builder_repeated ["self", "axis", "index", "count"] []) {f_Builder_add : Addr} {fd_Builder_add : FuncData} (F_Builder_add : FnG P w K mg base CX0 1 f_Builder_add fd_Builder_add ["self", "row"] (liftSp K sp_Builder_add)) (mt_Builder_add : Meth K C_Builder "add" f_Builder_add) (b_Builder_add : Binds K fd_Builder_add ["self", "row"] []) : FnG P w K mg base CX0 3 f fd ["self", "kind", "counts"] (liftSp K sp_Builder_block) := by
  have nd := sc_Builder_block.nd
  replace F_Builder_repeated := F_Builder_repeated.mono (show 2 ≤ 2 by decide)
  replace F_Builder_add := F_Builder_add.mono (show 1 ≤ 2 by decide)
  refine okD (wb := w_Builder_block) F sc_Builder_block ln_Builder_block (fun cdv A outer s H E hr => ?_) rd_Builder_block
  exact (jss_cons (jset 3 nd (jm_e (je_methM (m := [true, false]) ob_Builder.at_ ob_Builder.cl mt_Builder_add F_Builder_add hr b_Builder_add (jv 0) (ja_cons (je_tup (ja_cons (jv 1) ja_nil)) ja_nil))))
    (jss_cons (js_for PassesOwn.never rfl (ji_enum rfl z_enumerate (ja_cons (jv 2) ja_nil)) (jg_tup rfl (jgs_cons (jgn 4 nd) (jgs_cons (jgn 5 nd) jgs_nil)) (gs_lenN (gs_lenN gs_len0))) (jss_one (jset 3 nd (jm_e (je_methM (m := [true, false, false, false]) ob_Builder.at_ ob_Builder.cl mt_Builder_repeated F_Builder_repeated hr b_Builder_repeated (jv 0) (ja_cons (jv 4) (ja_cons (jv 3) (ja_cons (jv 5) ja_nil))))))))
    (jss_one (js_ret (jv 3)))))
set_option maxHeartbeats 0 in
theorem ok_counts_in {P : Program} {w : World} {K : PySem.W.Frag} {mg : Str → Option Value} {base : Heap} {f : Addr} {fd : FuncData} (F : Fun K "counts_in" "counts_in" s_counts_in f fd) (z_zip : mg "zip" = none) (z_tuple : mg "tuple" = none) (z_any : mg "any" = none) : FnG P w K mg base CX0 1 f fd ["brick", "box"] (liftSp K sp_counts_in_k66) := by
  have nd := sc_counts_in.nd
  refine okD (wb := w_counts_in_k66) F sc_counts_in ln_counts_in_k66 (fun cdv A outer s H E hr => ?_) rd_counts_in_k66
  exact (jss_cons (js_if (jt_val (je_fn (c_any rfl) rfl z_any boot_any (ja_cons (je_ofL (jl_comp (own := [("side", 2), ("own", 3)]) rfl nd (ji_zip2 rfl z_zip (ja_cons (jv 1) (ja_cons (jv 0) ja_nil))) (blkOk_by (by kernel_rfl)) (by decide) (fun _ _ _ _ _ => (jg_tup rfl (jgs_cons (jgn 2 nd) (jgs_cons (jgn 3 nd) jgs_nil)) (gs_lenN (gs_lenN gs_len0)))) (fun _ _ _ _ _ => jts_nil) (fun _ _ _ _ _ => (je_cmp (d_ne hr.u64) (je_op d_mod (jv 2) (jv 3)) je_int)))) ja_nil))) (jss_one (js_ret je_non)) jss_nil)
    (jss_one (js_ret (je_ty c_tup rfl z_tuple boot_tuple (ja_cons (je_ofL (jl_comp (own := [("side", 2), ("own", 3)]) rfl nd (ji_zip2 rfl z_zip (ja_cons (jv 1) (ja_cons (jv 0) ja_nil))) (blkOk_by (by kernel_rfl)) (by decide) (fun _ _ _ _ _ => (jg_tup rfl (jgs_cons (jgn 2 nd) (jgs_cons (jgn 3 nd) jgs_nil)) (gs_lenN (gs_lenN gs_len0)))) (fun _ _ _ _ _ => jts_nil) (fun _ _ _ _ _ => (je_op d_div (jv 2) (jv 3))))) ja_nil)))))
set_option maxHeartbeats 0 in
theorem ok_plan_for {P : Program} {w : World} {K : PySem.W.Frag} {mg : Str → Option Value} {base : Heap} {f : Addr} {fd : FuncData} (F : Fun K "plan_for" "plan_for" s_plan_for f fd) {C_Builder : Addr} (ob_Builder : ObjK K "Builder" C_Builder) (na_Builder_rows : NoAttr K C_Builder "rows") (z_tuple : mg "tuple" = none) (z_enumerate : mg "enumerate" = none) {f_Builder_add : Addr} {fd_Builder_add : FuncData} (F_Builder_add : FnG P w K mg base CX0 1 f_Builder_add fd_Builder_add ["self", "row"] (liftSp K sp_Builder_add)) (mt_Builder_add : Meth K C_Builder "add" f_Builder_add) (b_Builder_add : Binds K fd_Builder_add ["self", "row"] []) {f_Builder_block : Addr} {fd_Builder_block : FuncData} (F_Builder_block : FnG P w K mg base CX0 3 f_Builder_block fd_Builder_block ["self", "kind", "counts"] (liftSp K sp_Builder_block)) (mt_Builder_block : Meth K C_Builder "block" f_Builder_block) (b_Builder_block : Binds K fd_Builder_block ["self", "kind", "counts"] []) {f_counts_in : Addr} {fd_counts_in : FuncData} (F_counts_in : FnG P w K mg base CX0 1 f_counts_in fd_counts_in ["brick", "box"] (liftSp K sp_counts_in_k66)) (g_counts_in : mg "counts_in" = some (.ref f_counts_in)) (k_counts_in : PySem.W.keepIn K (.ref f_counts_in) = true) (b_counts_in : Binds K fd_counts_in ["brick", "box"] []) {f_with_side : Addr} {fd_with_side : FuncData} (F_with_side : FnG P w K mg base CX0 1 f_with_side fd_with_side ["box", "axis", "side"] (liftSp K sp_Lwith)) (g_with_side : mg "with_side" = some (.ref f_with_side)) (k_with_side : PySem.W.keepIn K (.ref f_with_side) = true) (b_with_side : Binds K fd_with_side ["box", "axis", "side"] []) {f_least_times : Addr} {fd_least_times : FuncData} (F_least_times : FnG P w K mg base CX0 2 f_least_times fd_least_times ["one", "other", "side"] (liftSp K sp_least_times)) (g_least_times : mg "least_times" = some (.ref f_least_times)) (k_least_times : PySem.W.keepIn K (.ref f_least_times) = true) (b_least_times : Binds K fd_least_times ["one", "other", "side"] []) {f_Builder_init : Addr} {fd_Builder_init : FuncData} (F_Builder_init : FnG P w K mg base CX0 1 f_Builder_init fd_Builder_init ["self"] (liftSp K sp_Builder_init)) (mk_Builder : Mk K C_Builder f_Builder_init) (mg_Builder : mg "Builder" = some (.ref C_Builder)) (b_Builder_init : Binds K fd_Builder_init ["self"] []) {f_is_filled : Addr} {fd_is_filled : FuncData} (F_is_filled : FnG P w K mg base CX0 5 f_is_filled fd_is_filled ["pair", "box"] (liftSp K sp_is_filled)) (g_is_filled : mg "is_filled" = some (.ref f_is_filled)) (k_is_filled : PySem.W.keepIn K (.ref f_is_filled) = true) (b_is_filled : Binds K fd_is_filled ["pair", "box"] []) : FnG P w K mg base CX0 6 f fd ["pair", "box"] (liftSp K sp_plan_for) := by
  have nd := sc_plan_for.nd
  replace F_Builder_add := F_Builder_add.mono (show 1 ≤ 5 by decide)
  replace F_Builder_block := F_Builder_block.mono (show 3 ≤ 5 by decide)
  replace F_counts_in := F_counts_in.mono (show 1 ≤ 5 by decide)
  replace F_with_side := F_with_side.mono (show 1 ≤ 5 by decide)
  replace F_least_times := F_least_times.mono (show 2 ≤ 5 by decide)
  replace F_Builder_init := F_Builder_init.mono (show 1 ≤ 4 by decide)
  replace F_is_filled := F_is_filled.mono (show 5 ≤ 5 by decide)
  refine okD (wb := w_plan_for) F sc_plan_for ln_plan_for (fun cdv A outer s H E hr => ?_) rd_plan_for
  exact (jss_cons (js_if (jt_not (jt_val (je_call (m := []) F_is_filled hr rfl g_is_filled k_is_filled b_is_filled (ja_cons (jv 0) (ja_cons (jv 1) ja_nil))))) (jss_one (js_ret je_non)) jss_nil)
    (jss_cons (jset 2 nd (jm_make0 ob_Builder mk_Builder F_Builder_init hr b_Builder_init rfl mg_Builder))
    (jss_cons (js_for PassesOwn.never rfl (ji_seq (je_tup (ja_cons je_int (ja_cons je_int ja_nil)))) (jgn 3 nd) (jss_cons (jset 4 nd (jm_e (je_call (m := []) F_counts_in hr rfl g_counts_in k_counts_in b_counts_in (ja_cons (je_ix d_ix (jv 0) (jv 3) (fun _ _ => rfl)) (ja_cons (jv 1) ja_nil)))))
    (jss_one (js_if (jt_cmp d_isnot (jv 4) je_non) (jss_cons (js_expr (je_methM (m := [true, false, false]) ob_Builder.at_ ob_Builder.cl mt_Builder_block F_Builder_block hr b_Builder_block (jv 2) (ja_cons (jv 3) (ja_cons (jv 4) ja_nil))))
    (jss_one (js_ret (je_buTy ob_Builder.at_ na_Builder_rows (jpv 2) c_tup rfl z_tuple boot_tuple)))) jss_nil))))
    (jss_cons (jset 5 nd (jm_e (je_ix d_ix (je_ofL (jl_comp (own := [("at", 6), ("side", 7)]) rfl nd (ji_enum rfl z_enumerate (ja_cons (jv 1) ja_nil)) (blkOk_by (by kernel_rfl)) (by decide) (fun _ _ _ _ _ => (jg_tup rfl (jgs_cons (jgn 6 nd) (jgs_cons (jgn 7 nd) jgs_nil)) (gs_lenN (gs_lenN gs_len0)))) (fun _ _ _ _ _ => (jts_one (jt_cmp (d_ne hr.u64) (je_op d_mod (jv 7) (je_ix d_ix (je_ix d_ix (jv 0) je_int (fun _ _ => rfl)) (jv 6) (fun _ _ => rfl))) je_int))) (fun _ _ _ _ _ => (jv 6)))) je_int (fun _ _ => rfl))))
    (jss_cons (jset 8 nd (jm_e (je_call (m := []) F_least_times hr rfl g_least_times k_least_times b_least_times (ja_cons (je_ix d_ix (je_ix d_ix (jv 0) je_int (fun _ _ => rfl)) (jv 5) (fun _ _ => rfl)) (ja_cons (je_ix d_ix (je_ix d_ix (jv 0) je_int (fun _ _ => rfl)) (jv 5) (fun _ _ => rfl)) (ja_cons (je_ix d_ix (jv 1) (jv 5) (fun _ _ => rfl)) ja_nil))))))
    (jss_cons (jset 6 nd (jm_e (je_op d_mulT (jv 8) (je_ix d_ix (je_ix d_ix (jv 0) je_int (fun _ _ => rfl)) (jv 5) (fun _ _ => rfl)))))
    (jss_cons (jset 9 nd (jm_e (je_methM (m := [true, false, false]) ob_Builder.at_ ob_Builder.cl mt_Builder_block F_Builder_block hr b_Builder_block (jv 2) (ja_cons je_int (ja_cons (je_call (m := []) F_counts_in hr rfl g_counts_in k_counts_in b_counts_in (ja_cons (je_ix d_ix (jv 0) je_int (fun _ _ => rfl)) (ja_cons (je_call (m := []) F_with_side hr rfl g_with_side k_with_side b_with_side (ja_cons (jv 1) (ja_cons (jv 5) (ja_cons (jv 6) ja_nil)))) ja_nil))) ja_nil)))))
    (jss_cons (jset 10 nd (jm_e (je_methM (m := [true, false, false]) ob_Builder.at_ ob_Builder.cl mt_Builder_block F_Builder_block hr b_Builder_block (jv 2) (ja_cons je_int (ja_cons (je_call (m := []) F_counts_in hr rfl g_counts_in k_counts_in b_counts_in (ja_cons (je_ix d_ix (jv 0) je_int (fun _ _ => rfl)) (ja_cons (je_call (m := []) F_with_side hr rfl g_with_side k_with_side b_with_side (ja_cons (jv 1) (ja_cons (jv 5) (ja_cons (je_op d_subB (je_ix d_ix (jv 1) (jv 5) (fun _ _ => rfl)) (jv 6)) ja_nil)))) ja_nil))) ja_nil)))))
    (jss_cons (js_expr (je_methM (m := [true, false]) ob_Builder.at_ ob_Builder.cl mt_Builder_add F_Builder_add hr b_Builder_add (jv 2) (ja_cons (je_tup (ja_cons (jv 5) (ja_cons (jv 9) (ja_cons (jv 10) ja_nil)))) ja_nil)))
    (jss_one (js_ret (je_buTy ob_Builder.at_ na_Builder_rows (jpv 2) c_tup rfl z_tuple boot_tuple))))))))))))
set_option maxHeartbeats 0 in
theorem ok_Lwhole {P : Program} {w : World} {K : PySem.W.Frag} {mg : Str → Option Value} {base : Heap} {f : Addr} {fd : FuncData} (F : Fun K "_law_whole" "_law_whole" s_Lwhole f fd) (z_isinstance : mg "isinstance" = none) (z_bool : mg "bool" = none) (z_int : mg "int" = none) : FnG P w K mg base CX0 1 f fd ["_law_value", "_law_least", "_law_most"] (liftSp K sp_is_integer) := by
  have nd := sc_Lwhole.nd
  refine okD (wb := w_is_integer) F sc_Lwhole ln_is_integer (fun cdv A outer s H E hr => ?_) rd_is_integer
  exact (jss_one (js_ret (je_and (je_isi (T := "int") (by simp) rfl z_isinstance boot_isinstance rfl z_int boot_int (jv 0)) (je_and (je_not (je_isi (T := "bool") (by simp) rfl z_isinstance boot_isinstance rfl z_bool boot_bool (jv 0))) (je_one (je_chain d_le d_le (jv 1) (jv 0) (jv 2)))))))
set_option maxHeartbeats 0 in
theorem ok_Lis_row {P : Program} {w : World} {K : PySem.W.Frag} {mg : Str → Option Value} {base : Heap} {f : Addr} {fd : FuncData} (F : Fun K "_law_is_row" "_law_is_row" s_Lis_row f fd) (z_len : mg "len" = none) (z_isinstance : mg "isinstance" = none) (z_tuple : mg "tuple" = none) {f_Lwhole : Addr} {fd_Lwhole : FuncData} (F_Lwhole : FnG P w K mg base CX0 1 f_Lwhole fd_Lwhole ["_law_value", "_law_least", "_law_most"] (liftSp K sp_is_integer)) (g_Lwhole : mg "_law_whole" = some (.ref f_Lwhole)) (k_Lwhole : PySem.W.keepIn K (.ref f_Lwhole) = true) (b_Lwhole : Binds K fd_Lwhole ["_law_value", "_law_least", "_law_most"] []) : FnG P w K mg base CX0 2 f fd ["_law_kinds", "_law_value", "_law_index"] (liftSp K sp_Lis_row) := by
  have nd := sc_Lis_row.nd
  replace F_Lwhole := F_Lwhole.mono (show 1 ≤ 1 by decide)
  refine okD (wb := w_Lis_row) F sc_Lis_row ln_Lis_row (fun cdv A outer s H E hr => ?_) rd_Lis_row
  exact (jss_cons (js_if (jt_w (jw_or (jt_not (jt_val (je_isi (T := "tuple") (by simp) rfl z_isinstance boot_isinstance rfl z_tuple boot_tuple (jv 1)))) (jw_or1 (jt_cmp (d_notIn hr.u65) (je_fn c_len rfl z_len boot_len (ja_cons (jv 1) ja_nil)) (je_ofL (jl_lst (ja_cons je_int (ja_cons je_int ja_nil)))))))) (jss_one (js_ret je_bl)) jss_nil)
    (jss_cons (js_if (jt_cmp (d_eq hr.u64) (je_fn c_len rfl z_len boot_len (ja_cons (jv 1) ja_nil)) je_int) (jss_one (js_ret (je_call (m := []) F_Lwhole hr rfl g_Lwhole k_Lwhole b_Lwhole (ja_cons (je_ix d_ix (jv 1) je_int (fun _ _ => rfl)) (ja_cons je_int (ja_cons (je_op d_subB (je_fn c_len rfl z_len boot_len (ja_cons (jv 0) ja_nil)) je_int) ja_nil)))))) jss_nil)
    (jss_cons (js_if (jt_not (jt_val (je_call (m := []) F_Lwhole hr rfl g_Lwhole k_Lwhole b_Lwhole (ja_cons (je_ix d_ix (jv 1) je_int (fun _ _ => rfl)) (ja_cons je_int (ja_cons (je_op d_subB (je_fn c_len rfl z_len boot_len (ja_cons (je_ix d_ix (jv 0) je_int (fun _ _ => rfl)) ja_nil)) je_int) ja_nil)))))) (jss_one (js_ret je_bl)) jss_nil)
    (jss_one (js_ret (je_and (je_call (m := []) F_Lwhole hr rfl g_Lwhole k_Lwhole b_Lwhole (ja_cons (je_ix d_ix (jv 1) je_int (fun _ _ => rfl)) (ja_cons je_int (ja_cons (je_op d_subB (jv 2) je_int) ja_nil)))) (je_one (je_call (m := []) F_Lwhole hr rfl g_Lwhole k_Lwhole b_Lwhole (ja_cons (je_ix d_ix (jv 1) je_int (fun _ _ => rfl)) (ja_cons je_int (ja_cons (je_op d_subB (jv 2) je_int) ja_nil)))))))))))
set_option maxHeartbeats 0 in
theorem ok_Lput {P : Program} {w : World} {K : PySem.W.Frag} {mg : Str → Option Value} {base : Heap} {f : Addr} {fd : FuncData} (F : Fun K "_law_put" "_law_put" s_Lput f fd) (z_len : mg "len" = none) (z_range : mg "range" = none) : FnG P w K mg base CX0 1 f fd ["_law_one_here", "_law_other", "_law_axis"] (liftSp K sp_Lput) := by
  have nd := sc_Lput.nd
  refine okD (wb := w_Lput) F sc_Lput ln_Lput (fun cdv A outer s H E hr => ?_) rd_Lput
  exact (jss_cons (js_for PassesOwn.never rfl (ji_range1 rfl z_range (ja_cons (je_fn c_len rfl z_len boot_len (ja_cons (jv 0) ja_nil)) ja_nil)) (jgn 3 nd) (jss_one (js_if (jt_w (jw_and (jt_cmp (d_ne hr.u64) (jv 3) (jv 2)) (jw_and1 (jt_cmp (d_ne hr.u64) (je_ix d_ix (jv 0) (jv 3) (fun _ _ => rfl)) (je_ix d_ix (jv 1) (jv 3) (fun _ _ => rfl)))))) (jss_one (js_ret je_non)) jss_nil)))
    (jss_one (js_ret (je_op d_addB (je_op d_addB (je_sl d_sl (jv 0) jo_none (jo_some (jv 2))) (je_tup (ja_cons (je_op d_addB (je_ix d_ix (jv 0) (jv 2) (fun _ _ => rfl)) (je_ix d_ix (jv 1) (jv 2) (fun _ _ => rfl))) ja_nil))) (je_sl d_sl (jv 0) (jo_some (je_op d_addB (jv 2) je_int)) jo_none)))))
set_option maxHeartbeats 0 in
theorem ok_Lplan_error {P : Program} {w : World} {K : PySem.W.Frag} {mg : Str → Option Value} {base : Heap} {f : Addr} {fd : FuncData} (F : Fun K "_law_plan_error" "_law_plan_error" s_Lplan_error f fd) (z_len : mg "len" = none) (z_range : mg "range" = none) (z_max : mg "max" = none) (z_isinstance : mg "isinstance" = none) (z_tuple : mg "tuple" = none) {f_Lput : Addr} {fd_Lput : FuncData} (F_Lput : FnG P w K mg base CX0 1 f_Lput fd_Lput ["_law_one_here", "_law_other", "_law_axis"] (liftSp K sp_Lput)) (g_Lput : mg "_law_put" = some (.ref f_Lput)) (k_Lput : PySem.W.keepIn K (.ref f_Lput) = true) (b_Lput : Binds K fd_Lput ["_law_one_here", "_law_other", "_law_axis"] []) {f_Lis_row : Addr} {fd_Lis_row : FuncData} (F_Lis_row : FnG P w K mg base CX0 2 f_Lis_row fd_Lis_row ["_law_kinds", "_law_value", "_law_index"] (liftSp K sp_Lis_row)) (g_Lis_row : mg "_law_is_row" = some (.ref f_Lis_row)) (k_Lis_row : PySem.W.keepIn K (.ref f_Lis_row) = true) (b_Lis_row : Binds K fd_Lis_row ["_law_kinds", "_law_value", "_law_index"] []) : FnG P w K mg base CX0 3 f fd ["_law_kinds", "_law_value"] (liftSp K sp_Lplan_error) := by
  have nd := sc_Lplan_error.nd
  replace F_Lput := F_Lput.mono (show 1 ≤ 2 by decide)
  replace F_Lis_row := F_Lis_row.mono (show 2 ≤ 2 by decide)
  refine okD (wb := w_Lplan_error) F sc_Lplan_error ln_Lplan_error (fun cdv A outer s H E hr => ?_) rd_Lplan_error
  exact (jss_cons (js_if (jt_w (jw_or (jt_not (jt_val (je_isi (T := "tuple") (by simp) rfl z_isinstance boot_isinstance rfl z_tuple boot_tuple (jv 1)))) (jw_or1 (jt_not (jt_chain d_le d_le je_int (je_fn c_len rfl z_len boot_len (ja_cons (jv 1) ja_nil)) je_int))))) (jss_one (js_ret (je_tup (ja_cons je_non (ja_cons je_str ja_nil))))) jss_nil)
    (jss_cons (jset 2 nd (jm_l (jl_lst ja_nil)))
    (jss_cons (js_for PassesOwn.never rfl (ji_range1 rfl z_range (ja_cons (je_fn c_len rfl z_len boot_len (ja_cons (jv 1) ja_nil)) ja_nil)) (jgn 3 nd) (jss_cons (jset 4 nd (jm_e (je_ix d_ix (jv 1) (jv 3) (fun _ _ => rfl))))
    (jss_cons (js_if (jt_not (jt_val (je_call (m := []) F_Lis_row hr rfl g_Lis_row k_Lis_row b_Lis_row (ja_cons (jv 0) (ja_cons (jv 4) (ja_cons (jv 3) ja_nil)))))) (jss_one (js_ret (je_tup (ja_cons (jv 3) (ja_cons je_str ja_nil))))) jss_nil)
    (jss_cons (jset 5 nd (jm_e (je_ifE (jt_cmp (d_eq hr.u64) (je_fn c_len rfl z_len boot_len (ja_cons (jv 4) ja_nil)) je_int) (je_ix d_ix (jv 0) (je_ix d_ix (jv 4) je_int (fun _ _ => rfl)) (fun _ _ => rfl)) (je_call (m := []) F_Lput hr rfl g_Lput k_Lput b_Lput (ja_cons (je_ix d_ix (jv 2) (je_ix d_ix (jv 4) je_int (fun _ _ => rfl)) (fun _ _ => rfl)) (ja_cons (je_ix d_ix (jv 2) (je_ix d_ix (jv 4) je_int (fun _ _ => rfl)) (fun _ _ => rfl)) (ja_cons (je_ix d_ix (jv 4) je_int (fun _ _ => rfl)) ja_nil)))))))
    (jss_cons (js_if (jt_cmp d_is (jv 5) je_non) (jss_one (js_ret (je_tup (ja_cons (jv 3) (ja_cons je_str ja_nil))))) jss_nil)
    (jss_cons (js_if (jt_cmp d_gt (je_fn (c_maxS rfl hr.u64) rfl z_max boot_max (ja_cons (jv 5) ja_nil)) (je_op d_pow je_int je_int)) (jss_one (js_ret (je_tup (ja_cons (jv 3) (ja_cons je_str ja_nil))))) jss_nil)
    (jss_one (js_append (jpv 2) (jv 5) rfl rfl (pe_bm PySem.F.plainAttrs_list PySem.F.slot_list_append PySem.F.type_list_append mt_append (jpv 2) (pa_cons (jv 5) pa_nil))))))))))
    (jss_one (js_ret je_non)))))
set_option maxHeartbeats 0 in
theorem ok_Lplan_boxes {P : Program} {w : World} {K : PySem.W.Frag} {mg : Str → Option Value} {base : Heap} {f : Addr} {fd : FuncData} (F : Fun K "_law_plan_boxes" "_law_plan_boxes" s_Lplan_boxes f fd) (z_len : mg "len" = none) {f_Lput : Addr} {fd_Lput : FuncData} (F_Lput : FnG P w K mg base CX0 1 f_Lput fd_Lput ["_law_one_here", "_law_other", "_law_axis"] (liftSp K sp_Lput)) (g_Lput : mg "_law_put" = some (.ref f_Lput)) (k_Lput : PySem.W.keepIn K (.ref f_Lput) = true) (b_Lput : Binds K fd_Lput ["_law_one_here", "_law_other", "_law_axis"] []) : FnG P w K mg base CX0 2 f fd ["_law_kinds", "_law_plan"] (liftSp K sp_Lplan_boxes) := by
  have nd := sc_Lplan_boxes.nd
  replace F_Lput := F_Lput.mono (show 1 ≤ 1 by decide)
  refine okD (wb := w_Lplan_boxes) F sc_Lplan_boxes ln_Lplan_boxes (fun cdv A outer s H E hr => ?_) rd_Lplan_boxes
  exact (jss_cons (jset 2 nd (jm_l (jl_lst ja_nil)))
    (jss_cons (js_for PassesOwn.never rfl (ji_seq (jv 1)) (jgn 3 nd) (jss_one (js_append (jpv 2) (je_ifE (jt_cmp (d_eq hr.u64) (je_fn c_len rfl z_len boot_len (ja_cons (jv 3) ja_nil)) je_int) (je_ix d_ix (jv 0) (je_ix d_ix (jv 3) je_int (fun _ _ => rfl)) (fun _ _ => rfl)) (je_call (m := []) F_Lput hr rfl g_Lput k_Lput b_Lput (ja_cons (je_ix d_ix (jv 2) (je_ix d_ix (jv 3) je_int (fun _ _ => rfl)) (fun _ _ => rfl)) (ja_cons (je_ix d_ix (jv 2) (je_ix d_ix (jv 3) je_int (fun _ _ => rfl)) (fun _ _ => rfl)) (ja_cons (je_ix d_ix (jv 3) je_int (fun _ _ => rfl)) ja_nil))))) rfl rfl (pe_bm PySem.F.plainAttrs_list PySem.F.slot_list_append PySem.F.type_list_append mt_append (jpv 2) (pa_cons (je_ifE (jt_cmp (d_eq hr.u64) (je_fn c_len rfl z_len boot_len (ja_cons (jv 3) ja_nil)) je_int) (je_ix d_ix (jv 0) (je_ix d_ix (jv 3) je_int (fun _ _ => rfl)) (fun _ _ => rfl)) (je_call (m := []) F_Lput hr rfl g_Lput k_Lput b_Lput (ja_cons (je_ix d_ix (jv 2) (je_ix d_ix (jv 3) je_int (fun _ _ => rfl)) (fun _ _ => rfl)) (ja_cons (je_ix d_ix (jv 2) (je_ix d_ix (jv 3) je_int (fun _ _ => rfl)) (fun _ _ => rfl)) (ja_cons (je_ix d_ix (jv 3) je_int (fun _ _ => rfl)) ja_nil))))) pa_nil)))))
    (jss_one (js_ret (jv 2)))))
set_option maxHeartbeats 0 in
theorem ok_Lplan_bricks {P : Program} {w : World} {K : PySem.W.Frag} {mg : Str → Option Value} {base : Heap} {f : Addr} {fd : FuncData} (F : Fun K "_law_plan_bricks" "_law_plan_bricks" s_Lplan_bricks f fd) (z_tuple : mg "tuple" = none) (z_len : mg "len" = none) (z_range : mg "range" = none) (z_int : mg "int" = none) (z_zip : mg "zip" = none) : FnG P w K mg base CX0 1 f fd ["_law_kinds", "_law_plan"] (liftSp K sp_Lplan_bricks) := by
  have nd := sc_Lplan_bricks.nd
  refine okD (wb := w_Lplan_bricks) F sc_Lplan_bricks ln_Lplan_bricks (fun cdv A outer s H E hr => ?_) rd_Lplan_bricks
  exact (jss_cons (jset 2 nd (jm_l (jl_lst ja_nil)))
    (jss_cons (js_for PassesOwn.never rfl (ji_seq (jv 1)) (jgn 3 nd) (jss_one (js_if (jt_cmp (d_eq hr.u64) (je_fn c_len rfl z_len boot_len (ja_cons (jv 3) ja_nil)) je_int) (jss_one (js_append (jpv 2) (je_ofL (jl_comp (own := [("_law_kind", 4)]) rfl nd (ji_range1 rfl z_range (ja_cons (je_fn c_len rfl z_len boot_len (ja_cons (jv 0) ja_nil)) ja_nil)) (blkOk_by (by kernel_rfl)) (by decide) (fun _ _ _ _ _ => (jgn 4 nd)) (fun _ _ _ _ _ => jts_nil) (fun _ _ _ _ _ => (je_ty c_int rfl z_int boot_int (ja_cons (je_cmp (d_eq hr.u64) (jv 4) (je_ix d_ix (jv 3) je_int (fun _ _ => rfl))) ja_nil))))) rfl rfl (pe_bm PySem.F.plainAttrs_list PySem.F.slot_list_append PySem.F.type_list_append mt_append (jpv 2) (pa_cons (je_ofL (jl_comp (own := [("_law_kind", 4)]) rfl nd (ji_range1 rfl z_range (ja_cons (je_fn c_len rfl z_len boot_len (ja_cons (jv 0) ja_nil)) ja_nil)) (blkOk_by (by kernel_rfl)) (by decide) (fun _ _ _ _ _ => (jgn 4 nd)) (fun _ _ _ _ _ => jts_nil) (fun _ _ _ _ _ => (je_ty c_int rfl z_int boot_int (ja_cons (je_cmp (d_eq hr.u64) (jv 4) (je_ix d_ix (jv 3) je_int (fun _ _ => rfl))) ja_nil))))) pa_nil)))) (jss_one (js_append (jpv 2) (je_ofL (jl_comp (own := [("_law_one_here", 5), ("_law_other", 6)]) rfl nd (ji_zip2 rfl z_zip (ja_cons (je_ix d_ix (jv 2) (je_ix d_ix (jv 3) je_int (fun _ _ => rfl)) (fun _ _ => rfl)) (ja_cons (je_ix d_ix (jv 2) (je_ix d_ix (jv 3) je_int (fun _ _ => rfl)) (fun _ _ => rfl)) ja_nil))) (blkOk_by (by kernel_rfl)) (by decide) (fun _ _ _ _ _ => (jg_tup rfl (jgs_cons (jgn 5 nd) (jgs_cons (jgn 6 nd) jgs_nil)) (gs_lenN (gs_lenN gs_len0)))) (fun _ _ _ _ _ => jts_nil) (fun _ _ _ _ _ => (je_op d_addB (jv 5) (jv 6))))) rfl rfl (pe_bm PySem.F.plainAttrs_list PySem.F.slot_list_append PySem.F.type_list_append mt_append (jpv 2) (pa_cons (je_ofL (jl_comp (own := [("_law_one_here", 5), ("_law_other", 6)]) rfl nd (ji_zip2 rfl z_zip (ja_cons (je_ix d_ix (jv 2) (je_ix d_ix (jv 3) je_int (fun _ _ => rfl)) (fun _ _ => rfl)) (ja_cons (je_ix d_ix (jv 2) (je_ix d_ix (jv 3) je_int (fun _ _ => rfl)) (fun _ _ => rfl)) ja_nil))) (blkOk_by (by kernel_rfl)) (by decide) (fun _ _ _ _ _ => (jg_tup rfl (jgs_cons (jgn 5 nd) (jgs_cons (jgn 6 nd) jgs_nil)) (gs_lenN (gs_lenN gs_len0)))) (fun _ _ _ _ _ => jts_nil) (fun _ _ _ _ _ => (je_op d_addB (jv 5) (jv 6))))) pa_nil)))))))
    (jss_one (js_ret (je_ty c_tup rfl z_tuple boot_tuple (ja_cons (je_ix d_ix (jv 2) (je_neg je_int) (fun _ _ => rfl)) ja_nil))))))
set_option maxHeartbeats 0 in
theorem ok_Lright {P : Program} {w : World} {K : PySem.W.Frag} {mg : Str → Option Value} {base : Heap} {f : Addr} {fd : FuncData} (F : Fun K "_law_right" "_law_right" s_Lright f fd) (z_repr : mg "repr" = none) {f_Lvolume : Addr} {fd_Lvolume : FuncData} (F_Lvolume : FnG P w K mg base CX0 1 f_Lvolume fd_Lvolume ["_law_sides_here"] (liftSp K sp_Lvolume)) (g_Lvolume : mg "_law_volume" = some (.ref f_Lvolume)) (k_Lvolume : PySem.W.keepIn K (.ref f_Lvolume) = true) (b_Lvolume : Binds K fd_Lvolume ["_law_sides_here"] []) {f_Lplan_bricks : Addr} {fd_Lplan_bricks : FuncData} (F_Lplan_bricks : FnG P w K mg base CX0 1 f_Lplan_bricks fd_Lplan_bricks ["_law_kinds", "_law_plan"] (liftSp K sp_Lplan_bricks)) (g_Lplan_bricks : mg "_law_plan_bricks" = some (.ref f_Lplan_bricks)) (k_Lplan_bricks : PySem.W.keepIn K (.ref f_Lplan_bricks) = true) (b_Lplan_bricks : Binds K fd_Lplan_bricks ["_law_kinds", "_law_plan"] []) {f_Lplan_boxes : Addr} {fd_Lplan_boxes : FuncData} (F_Lplan_boxes : FnG P w K mg base CX0 2 f_Lplan_boxes fd_Lplan_boxes ["_law_kinds", "_law_plan"] (liftSp K sp_Lplan_boxes)) (g_Lplan_boxes : mg "_law_plan_boxes" = some (.ref f_Lplan_boxes)) (k_Lplan_boxes : PySem.W.keepIn K (.ref f_Lplan_boxes) = true) (b_Lplan_boxes : Binds K fd_Lplan_boxes ["_law_kinds", "_law_plan"] []) {f_Lplan_error : Addr} {fd_Lplan_error : FuncData} (F_Lplan_error : FnG P w K mg base CX0 3 f_Lplan_error fd_Lplan_error ["_law_kinds", "_law_value"] (liftSp K sp_Lplan_error)) (g_Lplan_error : mg "_law_plan_error" = some (.ref f_Lplan_error)) (k_Lplan_error : PySem.W.keepIn K (.ref f_Lplan_error) = true) (b_Lplan_error : Binds K fd_Lplan_error ["_law_kinds", "_law_value"] []) {f_plan_for : Addr} {fd_plan_for : FuncData} (F_plan_for : FnG P w K mg base CX0 6 f_plan_for fd_plan_for ["pair", "box"] (liftSp K sp_plan_for)) (g_plan_for : mg "plan_for" = some (.ref f_plan_for)) (k_plan_for : PySem.W.keepIn K (.ref f_plan_for) = true) (b_plan_for : Binds K fd_plan_for ["pair", "box"] []) : FnG P w K mg base CX0 7 f fd ["_law_pair_here", "_law_box_here", "_law_due"] (liftSp K sp_Lright) := by
  have nd := sc_Lright.nd
  replace F_Lvolume := F_Lvolume.mono (show 1 ≤ 6 by decide)
  replace F_Lplan_bricks := F_Lplan_bricks.mono (show 1 ≤ 6 by decide)
  replace F_Lplan_boxes := F_Lplan_boxes.mono (show 2 ≤ 6 by decide)
  replace F_Lplan_error := F_Lplan_error.mono (show 3 ≤ 6 by decide)
  replace F_plan_for := F_plan_for.mono (show 6 ≤ 6 by decide)
  refine okD (wb := w_Lright) F sc_Lright ln_Lright (fun cdv A outer s H E hr => ?_) rd_Lright
  exact (jss_cons (jset 3 nd (jm_e (je_call (m := []) F_plan_for hr rfl g_plan_for k_plan_for b_plan_for (ja_cons (jv 0) (ja_cons (jv 1) ja_nil)))))
    (jss_cons (js_if (jt_w (jw_or (jt_cmp (d_ne hr.u64) (je_fn (c_reprN hr.gd hr.u64) rfl z_repr boot_repr (ja_cons (je_call (m := []) F_plan_for hr rfl g_plan_for k_plan_for b_plan_for (ja_cons (jv 0) (ja_cons (jv 1) ja_nil))) ja_nil)) (je_fn (c_reprN hr.gd hr.u64) rfl z_repr boot_repr (ja_cons (jv 3) ja_nil))) (jw_or1 (jt_cmp (d_ne hr.u64) (je_cmp d_isnot (jv 3) je_non) (jv 2))))) (jss_one (js_ret je_bl)) jss_nil)
    (jss_cons (js_if (jt_cmp d_is (jv 3) je_non) (jss_one (js_ret je_bl)) jss_nil)
    (jss_cons (js_if (jt_w (jw_or (jt_cmp d_isnot (je_call (m := []) F_Lplan_error hr rfl g_Lplan_error k_Lplan_error b_Lplan_error (ja_cons (jv 0) (ja_cons (jv 3) ja_nil))) je_non) (jw_or1 (jt_cmp (d_ne hr.u64) (je_fn (c_reprN hr.gd hr.u64) rfl z_repr boot_repr (ja_cons (je_ix d_ix (je_call (m := []) F_Lplan_boxes hr rfl g_Lplan_boxes k_Lplan_boxes b_Lplan_boxes (ja_cons (jv 0) (ja_cons (jv 3) ja_nil))) (je_neg je_int) (fun _ _ => rfl)) ja_nil)) (je_fn (c_reprN hr.gd hr.u64) rfl z_repr boot_repr (ja_cons (jv 1) ja_nil)))))) (jss_one (js_ret je_bl)) jss_nil)
    (jss_cons (js_asgG (je_call (m := []) F_Lplan_bricks hr rfl g_Lplan_bricks k_Lplan_bricks b_Lplan_bricks (ja_cons (jv 0) (ja_cons (jv 3) ja_nil))) (jg_tup rfl (jgs_cons (jgn 4 nd) (jgs_cons (jgn 5 nd) jgs_nil)) (gs_lenN (gs_lenN gs_len0))))
    (jss_one (js_ret (je_cmp (d_eq hr.u64) (je_op d_addB (je_op d_mulT (jv 4) (je_call (m := []) F_Lvolume hr rfl g_Lvolume k_Lvolume b_Lvolume (ja_cons (je_ix d_ix (jv 0) je_int (fun _ _ => rfl)) ja_nil))) (je_op d_mulT (jv 5) (je_call (m := []) F_Lvolume hr rfl g_Lvolume k_Lvolume b_Lvolume (ja_cons (je_ix d_ix (jv 0) je_int (fun _ _ => rfl)) ja_nil)))) (je_call (m := []) F_Lvolume hr rfl g_Lvolume k_Lvolume b_Lvolume (ja_cons (jv 1) ja_nil))))))))))
set_option maxHeartbeats 0 in
theorem ok_law {P : Program} {w : World} {K : PySem.W.Frag} {mg : Str → Option Value} {base : Heap} {f : Addr} {fd : FuncData} (F : Fun K "law" "law" s_law f fd) (z_range : mg "range" = none) (z_tuple : mg "tuple" = none) (z_min : mg "min" = none) {f_Lright : Addr} {fd_Lright : FuncData} (F_Lright : FnG P w K mg base CX0 7 f_Lright fd_Lright ["_law_pair_here", "_law_box_here", "_law_due"] (liftSp K sp_Lright)) (g_Lright : mg "_law_right" = some (.ref f_Lright)) (k_Lright : PySem.W.keepIn K (.ref f_Lright) = true) (b_Lright : Binds K fd_Lright ["_law_pair_here", "_law_box_here", "_law_due"] []) {f_Ldraw : Addr} {fd_Ldraw : FuncData} (F_Ldraw : FnG P w K mg base CX0 1 f_Ldraw fd_Ldraw ["_law_deck_here", "_law_many"] (liftSp K sp_Ldraw)) (g_Ldraw : mg "_law_draw" = some (.ref f_Ldraw)) (k_Ldraw : PySem.W.keepIn K (.ref f_Ldraw) = true) (b_Ldraw : Binds K fd_Ldraw ["_law_deck_here", "_law_many"] []) {f_Lfar_filled : Addr} {fd_Lfar_filled : FuncData} (F_Lfar_filled : FnG P w K mg base CX0 2 f_Lfar_filled fd_Lfar_filled ["_law_pair_here", "_law_box_here"] (liftSp K sp_Lfar_filled)) (g_Lfar_filled : mg "_law_far_filled" = some (.ref f_Lfar_filled)) (k_Lfar_filled : PySem.W.keepIn K (.ref f_Lfar_filled) = true) (b_Lfar_filled : Binds K fd_Lfar_filled ["_law_pair_here", "_law_box_here"] []) {f_Lfar_box : Addr} {fd_Lfar_box : FuncData} (F_Lfar_box : FnG P w K mg base CX0 3 f_Lfar_box fd_Lfar_box ["_law_deck_here", "_law_pair_here"] (liftSp K sp_Lfar_box)) (g_Lfar_box : mg "_law_far_box" = some (.ref f_Lfar_box)) (k_Lfar_box : PySem.W.keepIn K (.ref f_Lfar_box) = true) (b_Lfar_box : Binds K fd_Lfar_box ["_law_deck_here", "_law_pair_here"] []) {f_Lbox : Addr} {fd_Lbox : FuncData} (F_Lbox : FnG P w K mg base CX0 4 f_Lbox fd_Lbox ["_law_deck_here", "_law_pair_here", "_law_most", "_law_cells"] (liftSp K sp_Lbox)) (g_Lbox : mg "_law_box" = some (.ref f_Lbox)) (k_Lbox : PySem.W.keepIn K (.ref f_Lbox) = true) (b_Lbox : Binds K fd_Lbox ["_law_deck_here", "_law_pair_here", "_law_most", "_law_cells"] []) {f_Lpair : Addr} {fd_Lpair : FuncData} (F_Lpair : FnG P w K mg base CX0 3 f_Lpair fd_Lpair ["_law_deck_here", "_law_axes", "_law_most"] (liftSp K sp_Lpair)) (g_Lpair : mg "_law_pair" = some (.ref f_Lpair)) (k_Lpair : PySem.W.keepIn K (.ref f_Lpair) = true) (b_Lpair : Binds K fd_Lpair ["_law_deck_here", "_law_axes", "_law_most"] []) {f_Lone : Addr} {fd_Lone : FuncData} (F_Lone : FnG P w K mg base CX0 2 f_Lone fd_Lone ["_law_deck_here", "_law_items"] (liftSp K sp_Lone)) (g_Lone : mg "_law_one" = some (.ref f_Lone)) (k_Lone : PySem.W.keepIn K (.ref f_Lone) = true) (b_Lone : Binds K fd_Lone ["_law_deck_here", "_law_items"] []) {f_Ldeck : Addr} {fd_Ldeck : FuncData} (F_Ldeck : FnG P w K mg base CX0 1 f_Ldeck fd_Ldeck ["_law_script"] (liftM K sp_Ldeck)) (g_Ldeck : mg "_law_deck" = some (.ref f_Ldeck)) (k_Ldeck : PySem.W.keepIn K (.ref f_Ldeck) = true) (b_Ldeck : Binds K fd_Ldeck ["_law_script"] []) : FnG P w K mg base CX0 8 f fd ["_law_script"] (liftSp K sp_law) := by
  have nd := sc_law.nd
  replace F_Lright := F_Lright.mono (show 7 ≤ 7 by decide)
  replace F_Ldraw := F_Ldraw.mono (show 1 ≤ 7 by decide)
  replace F_Lfar_filled := F_Lfar_filled.mono (show 2 ≤ 7 by decide)
  replace F_Lfar_box := F_Lfar_box.mono (show 3 ≤ 7 by decide)
  replace F_Lbox := F_Lbox.mono (show 4 ≤ 7 by decide)
  replace F_Lpair := F_Lpair.mono (show 3 ≤ 7 by decide)
  replace F_Lone := F_Lone.mono (show 2 ≤ 7 by decide)
  replace F_Ldeck := F_Ldeck.mono (show 1 ≤ 7 by decide)
  refine okD (wb := w_law) F sc_law ln_law (fun cdv A outer s H E hr => ?_) rd_law
  exact (jss_cons (jset 1 nd (jm_call (m := [true]) F_Ldeck hr rfl g_Ldeck k_Ldeck b_Ldeck (ja_cons (jv 0) ja_nil)))
    (jss_cons (js_for PassesOwn.never rfl (ji_range1 rfl z_range (ja_cons je_int ja_nil)) (jgn 2 nd) (jss_cons (jset 3 nd (jm_e (je_op d_addB je_int (je_call (m := [true, false]) F_Ldraw hr rfl g_Ldraw k_Ldraw b_Ldraw (ja_cons (jv 1) (ja_cons je_int ja_nil))))))
    (jss_cons (jset 4 nd (jm_e (je_call (m := [true, false, false]) F_Lpair hr rfl g_Lpair k_Lpair b_Lpair (ja_cons (jv 1) (ja_cons (jv 3) (ja_cons (je_call (m := [true, false]) F_Lone hr rfl g_Lone k_Lone b_Lone (ja_cons (jv 1) (ja_cons (je_ofL (jl_lst (ja_cons je_int (ja_cons je_int ja_nil)))) ja_nil))) ja_nil))))))
    (jss_cons (jset 5 nd (jm_e (je_call (m := [true, false, false, false]) F_Lbox hr rfl g_Lbox k_Lbox b_Lbox (ja_cons (jv 1) (ja_cons (jv 4) (ja_cons je_int (ja_cons (je_op d_pow je_int je_int) ja_nil)))))))
    (jss_cons (js_if (jt_not (jt_val (je_call (m := []) F_Lright hr rfl g_Lright k_Lright b_Lright (ja_cons (jv 4) (ja_cons (jv 5) (ja_cons (je_call (m := []) F_Lfar_filled hr rfl g_Lfar_filled k_Lfar_filled b_Lfar_filled (ja_cons (jv 4) (ja_cons (jv 5) ja_nil))) ja_nil)))))) (jss_one (js_ret je_bl)) jss_nil)
    (jss_cons (jset 6 nd (jm_e (je_ty c_tup rfl z_tuple boot_tuple (ja_cons (je_ofL (jl_comp (own := [("_law_side", 7)]) rfl nd (ji_seq (je_call (m := [true, false]) F_Lfar_box hr rfl g_Lfar_box k_Lfar_box b_Lfar_box (ja_cons (jv 1) (ja_cons (jv 4) ja_nil)))) (blkOk_by (by kernel_rfl)) (by decide) (fun _ _ _ _ _ => (jgn 7 nd)) (fun _ _ _ _ _ => jts_nil) (fun _ _ _ _ _ => (je_fn (c_min2 rfl) rfl z_min boot_min (ja_cons (je_op d_pow je_int je_int) (ja_cons (jv 7) ja_nil)))))) ja_nil))))
    (jss_cons (js_if (jt_not (jt_val (je_call (m := []) F_Lright hr rfl g_Lright k_Lright b_Lright (ja_cons (jv 4) (ja_cons (jv 6) (ja_cons (je_call (m := []) F_Lfar_filled hr rfl g_Lfar_filled k_Lfar_filled b_Lfar_filled (ja_cons (jv 4) (ja_cons (jv 6) ja_nil))) ja_nil)))))) (jss_one (js_ret je_bl)) jss_nil)
    (jss_cons (jset 8 nd (jm_e (je_op d_addB je_int (je_call (m := [true, false]) F_Ldraw hr rfl g_Ldraw k_Ldraw b_Ldraw (ja_cons (jv 1) (ja_cons (je_op d_pow je_int je_int) ja_nil))))))
    (jss_cons (jset 9 nd (jm_e (je_ty c_tup rfl z_tuple boot_tuple (ja_cons (je_ofL (jl_comp (own := [("_law_brick", 10)]) rfl nd (ji_seq (jv 4)) (blkOk_by (by kernel_rfl)) (by decide) (fun _ _ _ _ _ => (jgn 10 nd)) (fun _ _ _ _ _ => jts_nil) (fun _ _ _ _ _ => (je_ty c_tup rfl z_tuple boot_tuple (ja_cons (je_ofL (jl_comp (own := [("_law_side", 7)]) rfl nd (ji_seq (jv 10)) (blkOk_by (by kernel_rfl)) (by decide) (fun _ _ _ _ _ => (jgn 7 nd)) (fun _ _ _ _ _ => jts_nil) (fun _ _ _ _ _ => (je_op d_mulT (jv 7) (jv 8))))) ja_nil))))) ja_nil))))
    (jss_cons (jset 11 nd (jm_e (je_ty c_tup rfl z_tuple boot_tuple (ja_cons (je_ofL (jl_comp (own := [("_law_side", 7)]) rfl nd (ji_seq (jv 5)) (blkOk_by (by kernel_rfl)) (by decide) (fun _ _ _ _ _ => (jgn 7 nd)) (fun _ _ _ _ _ => jts_nil) (fun _ _ _ _ _ => (je_op d_mulT (jv 7) (jv 8))))) ja_nil))))
    (jss_one (js_if (jt_not (jt_val (je_call (m := []) F_Lright hr rfl g_Lright k_Lright b_Lright (ja_cons (jv 9) (ja_cons (jv 11) (ja_cons (je_call (m := []) F_Lfar_filled hr rfl g_Lfar_filled k_Lfar_filled b_Lfar_filled (ja_cons (jv 4) (ja_cons (jv 5) ja_nil))) ja_nil)))))) (jss_one (js_ret je_bl)) jss_nil))))))))))))
    (jss_cons (jset 12 nd (jm_e (je_op d_addB je_int (je_call (m := [true, false]) F_Ldraw hr rfl g_Ldraw k_Ldraw b_Ldraw (ja_cons (jv 1) (ja_cons (je_op d_pow je_int je_int) ja_nil))))))
    (jss_cons (jset 7 nd (jm_e (je_op d_addB (je_op d_subB (je_op d_subB (je_op d_mulT (jv 12) (je_op d_addB (jv 12) je_int)) (je_op d_mulT je_int (jv 12))) je_int) (je_call (m := [true, false]) F_Ldraw hr rfl g_Ldraw k_Ldraw b_Ldraw (ja_cons (jv 1) (ja_cons je_int ja_nil))))))
    (jss_one (js_ret (je_call (m := []) F_Lright hr rfl g_Lright k_Lright b_Lright (ja_cons (je_tup (ja_cons (je_tup (ja_cons (jv 12) (ja_cons je_int ja_nil))) (ja_cons (je_tup (ja_cons (je_op d_addB (jv 12) je_int) (ja_cons je_int ja_nil))) ja_nil))) (ja_cons (je_tup (ja_cons (jv 7) (ja_cons je_int ja_nil))) (ja_cons (je_cmp (d_ne hr.u64) (jv 7) (je_op d_subB (je_op d_subB (je_op d_mulT (jv 12) (je_op d_addB (jv 12) je_int)) (je_op d_mulT je_int (jv 12))) je_int)) ja_nil))))))))))
end K66
set_option Elab.async false
set_option linter.all false
set_option maxRecDepth 100000
set_option maxHeartbeats 4000000
namespace K66
open PySem PySem.Spec PyProof.Rows L2 DL TW
variable [DL.Tb]
theorem all_mk {l : PySem.W.OpenLaw} {w : World} {K : PySem.W.Frag} {h : Heap} {mg : Str → Option Value} {fa : Addr} (X : K.In h) (G : h.Ns mainGlobals mg) (hfa : mg "law" = some (.ref fa))
    {C_Builder : Addr} (ac_Builder : PySem.W.nsIn K mainGlobals "Builder" = some (some (.ref C_Builder))) (ob_Builder : ObjK K "Builder" C_Builder)
    (mm_Builder : PySem.W.makesIn K C_Builder = true) (mp_Builder : PySem.W.keepIn K (.ref C_Builder) = true)
    (na_Builder_rows : NoAttr K C_Builder "rows")
    {od_Ldeck an_Ldeck : Option Addr} {sl_Ldeck : Array (Option Value)} {oc_Ldeck kV_Ldeck dc_Ldeck pm_Ldeck cd_Ldeck ct_Ldeck : Value} {f_Ldeck : Addr}
    (a_Ldeck : PySem.W.nsIn K mainGlobals "_law_deck" = some (some (.ref f_Ldeck))) (l_Ldeck : K.lookup f_Ldeck = some ⟨oc_Ldeck, od_Ldeck, .func (PySem.W.fnOf "_law_deck" "_law_deck" (defArgs s_Ldeck) (defBody s_Ldeck) (defScope s_Ldeck) .none kV_Ldeck dc_Ldeck pm_Ldeck an_Ldeck cd_Ldeck ct_Ldeck), sl_Ldeck⟩) (c_Ldeck : PySem.W.codeIn K cd_Ldeck "_law_deck" = true) (k_Ldeck : PySem.W.keepIn K (.ref f_Ldeck) = true)
    {od_Ldraw an_Ldraw : Option Addr} {sl_Ldraw : Array (Option Value)} {oc_Ldraw kV_Ldraw dc_Ldraw pm_Ldraw cd_Ldraw ct_Ldraw : Value} {f_Ldraw : Addr}
    (a_Ldraw : PySem.W.nsIn K mainGlobals "_law_draw" = some (some (.ref f_Ldraw))) (l_Ldraw : K.lookup f_Ldraw = some ⟨oc_Ldraw, od_Ldraw, .func (PySem.W.fnOf "_law_draw" "_law_draw" (defArgs s_Ldraw) (defBody s_Ldraw) (defScope s_Ldraw) .none kV_Ldraw dc_Ldraw pm_Ldraw an_Ldraw cd_Ldraw ct_Ldraw), sl_Ldraw⟩) (c_Ldraw : PySem.W.codeIn K cd_Ldraw "_law_draw" = true) (k_Ldraw : PySem.W.keepIn K (.ref f_Ldraw) = true)
    {od_Lone an_Lone : Option Addr} {sl_Lone : Array (Option Value)} {oc_Lone kV_Lone dc_Lone pm_Lone cd_Lone ct_Lone : Value} {f_Lone : Addr}
    (a_Lone : PySem.W.nsIn K mainGlobals "_law_one" = some (some (.ref f_Lone))) (l_Lone : K.lookup f_Lone = some ⟨oc_Lone, od_Lone, .func (PySem.W.fnOf "_law_one" "_law_one" (defArgs s_Lone) (defBody s_Lone) (defScope s_Lone) .none kV_Lone dc_Lone pm_Lone an_Lone cd_Lone ct_Lone), sl_Lone⟩) (c_Lone : PySem.W.codeIn K cd_Lone "_law_one" = true) (k_Lone : PySem.W.keepIn K (.ref f_Lone) = true)
    {od_Lsides an_Lsides : Option Addr} {sl_Lsides : Array (Option Value)} {oc_Lsides kV_Lsides dc_Lsides pm_Lsides cd_Lsides ct_Lsides : Value} {f_Lsides : Addr}
    (a_Lsides : PySem.W.nsIn K mainGlobals "_law_sides" = some (some (.ref f_Lsides))) (l_Lsides : K.lookup f_Lsides = some ⟨oc_Lsides, od_Lsides, .func (PySem.W.fnOf "_law_sides" "_law_sides" (defArgs s_Lsides) (defBody s_Lsides) (defScope s_Lsides) .none kV_Lsides dc_Lsides pm_Lsides an_Lsides cd_Lsides ct_Lsides), sl_Lsides⟩) (c_Lsides : PySem.W.codeIn K cd_Lsides "_law_sides" = true) (k_Lsides : PySem.W.keepIn K (.ref f_Lsides) = true)
    {od_Lpair an_Lpair : Option Addr} {sl_Lpair : Array (Option Value)} {oc_Lpair kV_Lpair dc_Lpair pm_Lpair cd_Lpair ct_Lpair : Value} {f_Lpair : Addr}
    (a_Lpair : PySem.W.nsIn K mainGlobals "_law_pair" = some (some (.ref f_Lpair))) (l_Lpair : K.lookup f_Lpair = some ⟨oc_Lpair, od_Lpair, .func (PySem.W.fnOf "_law_pair" "_law_pair" (defArgs s_Lpair) (defBody s_Lpair) (defScope s_Lpair) .none kV_Lpair dc_Lpair pm_Lpair an_Lpair cd_Lpair ct_Lpair), sl_Lpair⟩) (c_Lpair : PySem.W.codeIn K cd_Lpair "_law_pair" = true) (k_Lpair : PySem.W.keepIn K (.ref f_Lpair) = true)
    {od_Lvolume an_Lvolume : Option Addr} {sl_Lvolume : Array (Option Value)} {oc_Lvolume kV_Lvolume dc_Lvolume pm_Lvolume cd_Lvolume ct_Lvolume : Value} {f_Lvolume : Addr}
    (a_Lvolume : PySem.W.nsIn K mainGlobals "_law_volume" = some (some (.ref f_Lvolume))) (l_Lvolume : K.lookup f_Lvolume = some ⟨oc_Lvolume, od_Lvolume, .func (PySem.W.fnOf "_law_volume" "_law_volume" (defArgs s_Lvolume) (defBody s_Lvolume) (defScope s_Lvolume) .none kV_Lvolume dc_Lvolume pm_Lvolume an_Lvolume cd_Lvolume ct_Lvolume), sl_Lvolume⟩) (c_Lvolume : PySem.W.codeIn K cd_Lvolume "_law_volume" = true) (k_Lvolume : PySem.W.keepIn K (.ref f_Lvolume) = true)
    {od_Ldivisor an_Ldivisor : Option Addr} {sl_Ldivisor : Array (Option Value)} {oc_Ldivisor kV_Ldivisor dc_Ldivisor pm_Ldivisor cd_Ldivisor ct_Ldivisor : Value} {f_Ldivisor : Addr}
    (a_Ldivisor : PySem.W.nsIn K mainGlobals "_law_divisor" = some (some (.ref f_Ldivisor))) (l_Ldivisor : K.lookup f_Ldivisor = some ⟨oc_Ldivisor, od_Ldivisor, .func (PySem.W.fnOf "_law_divisor" "_law_divisor" (defArgs s_Ldivisor) (defBody s_Ldivisor) (defScope s_Ldivisor) .none kV_Ldivisor dc_Ldivisor pm_Ldivisor an_Ldivisor cd_Ldivisor ct_Ldivisor), sl_Ldivisor⟩) (c_Ldivisor : PySem.W.codeIn K cd_Ldivisor "_law_divisor" = true) (k_Ldivisor : PySem.W.keepIn K (.ref f_Ldivisor) = true)
    {od_Llcm an_Llcm : Option Addr} {sl_Llcm : Array (Option Value)} {oc_Llcm kV_Llcm dc_Llcm pm_Llcm cd_Llcm ct_Llcm : Value} {f_Llcm : Addr}
    (a_Llcm : PySem.W.nsIn K mainGlobals "_law_lcm" = some (some (.ref f_Llcm))) (l_Llcm : K.lookup f_Llcm = some ⟨oc_Llcm, od_Llcm, .func (PySem.W.fnOf "_law_lcm" "_law_lcm" (defArgs s_Llcm) (defBody s_Llcm) (defScope s_Llcm) .none kV_Llcm dc_Llcm pm_Llcm an_Llcm cd_Llcm ct_Llcm), sl_Llcm⟩) (c_Llcm : PySem.W.codeIn K cd_Llcm "_law_lcm" = true) (k_Llcm : PySem.W.keepIn K (.ref f_Llcm) = true)
    {od_Lcut_box an_Lcut_box : Option Addr} {sl_Lcut_box : Array (Option Value)} {oc_Lcut_box kV_Lcut_box dc_Lcut_box pm_Lcut_box cd_Lcut_box ct_Lcut_box : Value} {f_Lcut_box : Addr}
    (a_Lcut_box : PySem.W.nsIn K mainGlobals "_law_cut_box" = some (some (.ref f_Lcut_box))) (l_Lcut_box : K.lookup f_Lcut_box = some ⟨oc_Lcut_box, od_Lcut_box, .func (PySem.W.fnOf "_law_cut_box" "_law_cut_box" (defArgs s_Lcut_box) (defBody s_Lcut_box) (defScope s_Lcut_box) .none kV_Lcut_box dc_Lcut_box pm_Lcut_box an_Lcut_box cd_Lcut_box ct_Lcut_box), sl_Lcut_box⟩) (c_Lcut_box : PySem.W.codeIn K cd_Lcut_box "_law_cut_box" = true) (k_Lcut_box : PySem.W.keepIn K (.ref f_Lcut_box) = true)
    {od_Lplain_box an_Lplain_box : Option Addr} {sl_Lplain_box : Array (Option Value)} {oc_Lplain_box kV_Lplain_box dc_Lplain_box pm_Lplain_box cd_Lplain_box ct_Lplain_box : Value} {f_Lplain_box : Addr}
    (a_Lplain_box : PySem.W.nsIn K mainGlobals "_law_plain_box" = some (some (.ref f_Lplain_box))) (l_Lplain_box : K.lookup f_Lplain_box = some ⟨oc_Lplain_box, od_Lplain_box, .func (PySem.W.fnOf "_law_plain_box" "_law_plain_box" (defArgs s_Lplain_box) (defBody s_Lplain_box) (defScope s_Lplain_box) .none kV_Lplain_box dc_Lplain_box pm_Lplain_box an_Lplain_box cd_Lplain_box ct_Lplain_box), sl_Lplain_box⟩) (c_Lplain_box : PySem.W.codeIn K cd_Lplain_box "_law_plain_box" = true) (k_Lplain_box : PySem.W.keepIn K (.ref f_Lplain_box) = true)
    {od_Lbox an_Lbox : Option Addr} {sl_Lbox : Array (Option Value)} {oc_Lbox kV_Lbox dc_Lbox pm_Lbox cd_Lbox ct_Lbox : Value} {f_Lbox : Addr}
    (a_Lbox : PySem.W.nsIn K mainGlobals "_law_box" = some (some (.ref f_Lbox))) (l_Lbox : K.lookup f_Lbox = some ⟨oc_Lbox, od_Lbox, .func (PySem.W.fnOf "_law_box" "_law_box" (defArgs s_Lbox) (defBody s_Lbox) (defScope s_Lbox) .none kV_Lbox dc_Lbox pm_Lbox an_Lbox cd_Lbox ct_Lbox), sl_Lbox⟩) (c_Lbox : PySem.W.codeIn K cd_Lbox "_law_box" = true) (k_Lbox : PySem.W.keepIn K (.ref f_Lbox) = true)
    {od_Lrests an_Lrests : Option Addr} {sl_Lrests : Array (Option Value)} {oc_Lrests kV_Lrests dc_Lrests pm_Lrests cd_Lrests ct_Lrests : Value} {f_Lrests : Addr}
    (a_Lrests : PySem.W.nsIn K mainGlobals "_law_rests" = some (some (.ref f_Lrests))) (l_Lrests : K.lookup f_Lrests = some ⟨oc_Lrests, od_Lrests, .func (PySem.W.fnOf "_law_rests" "_law_rests" (defArgs s_Lrests) (defBody s_Lrests) (defScope s_Lrests) .none kV_Lrests dc_Lrests pm_Lrests an_Lrests cd_Lrests ct_Lrests), sl_Lrests⟩) (c_Lrests : PySem.W.codeIn K cd_Lrests "_law_rests" = true) (k_Lrests : PySem.W.keepIn K (.ref f_Lrests) = true)
    {od_Lfar_sum an_Lfar_sum : Option Addr} {sl_Lfar_sum : Array (Option Value)} {oc_Lfar_sum kV_Lfar_sum dc_Lfar_sum pm_Lfar_sum cd_Lfar_sum ct_Lfar_sum : Value} {f_Lfar_sum : Addr}
    (a_Lfar_sum : PySem.W.nsIn K mainGlobals "_law_far_sum" = some (some (.ref f_Lfar_sum))) (l_Lfar_sum : K.lookup f_Lfar_sum = some ⟨oc_Lfar_sum, od_Lfar_sum, .func (PySem.W.fnOf "_law_far_sum" "_law_far_sum" (defArgs s_Lfar_sum) (defBody s_Lfar_sum) (defScope s_Lfar_sum) .none kV_Lfar_sum dc_Lfar_sum pm_Lfar_sum an_Lfar_sum cd_Lfar_sum ct_Lfar_sum), sl_Lfar_sum⟩) (c_Lfar_sum : PySem.W.codeIn K cd_Lfar_sum "_law_far_sum" = true) (k_Lfar_sum : PySem.W.keepIn K (.ref f_Lfar_sum) = true)
    {od_Lfar_filled an_Lfar_filled : Option Addr} {sl_Lfar_filled : Array (Option Value)} {oc_Lfar_filled kV_Lfar_filled dc_Lfar_filled pm_Lfar_filled cd_Lfar_filled ct_Lfar_filled : Value} {f_Lfar_filled : Addr}
    (a_Lfar_filled : PySem.W.nsIn K mainGlobals "_law_far_filled" = some (some (.ref f_Lfar_filled))) (l_Lfar_filled : K.lookup f_Lfar_filled = some ⟨oc_Lfar_filled, od_Lfar_filled, .func (PySem.W.fnOf "_law_far_filled" "_law_far_filled" (defArgs s_Lfar_filled) (defBody s_Lfar_filled) (defScope s_Lfar_filled) .none kV_Lfar_filled dc_Lfar_filled pm_Lfar_filled an_Lfar_filled cd_Lfar_filled ct_Lfar_filled), sl_Lfar_filled⟩) (c_Lfar_filled : PySem.W.codeIn K cd_Lfar_filled "_law_far_filled" = true) (k_Lfar_filled : PySem.W.keepIn K (.ref f_Lfar_filled) = true)
    {od_Lfar_box an_Lfar_box : Option Addr} {sl_Lfar_box : Array (Option Value)} {oc_Lfar_box kV_Lfar_box dc_Lfar_box pm_Lfar_box cd_Lfar_box ct_Lfar_box : Value} {f_Lfar_box : Addr}
    (a_Lfar_box : PySem.W.nsIn K mainGlobals "_law_far_box" = some (some (.ref f_Lfar_box))) (l_Lfar_box : K.lookup f_Lfar_box = some ⟨oc_Lfar_box, od_Lfar_box, .func (PySem.W.fnOf "_law_far_box" "_law_far_box" (defArgs s_Lfar_box) (defBody s_Lfar_box) (defScope s_Lfar_box) .none kV_Lfar_box dc_Lfar_box pm_Lfar_box an_Lfar_box cd_Lfar_box ct_Lfar_box), sl_Lfar_box⟩) (c_Lfar_box : PySem.W.codeIn K cd_Lfar_box "_law_far_box" = true) (k_Lfar_box : PySem.W.keepIn K (.ref f_Lfar_box) = true)
    {od_common an_common : Option Addr} {sl_common : Array (Option Value)} {oc_common kV_common dc_common pm_common cd_common ct_common : Value} {f_common : Addr}
    (a_common : PySem.W.nsIn K mainGlobals "common" = some (some (.ref f_common))) (l_common : K.lookup f_common = some ⟨oc_common, od_common, .func (PySem.W.fnOf "common" "common" (defArgs s_common) (defBody s_common) (defScope s_common) .none kV_common dc_common pm_common an_common cd_common ct_common), sl_common⟩) (c_common : PySem.W.codeIn K cd_common "common" = true) (k_common : PySem.W.keepIn K (.ref f_common) = true)
    {od_inverse an_inverse : Option Addr} {sl_inverse : Array (Option Value)} {oc_inverse kV_inverse dc_inverse pm_inverse cd_inverse ct_inverse : Value} {f_inverse : Addr}
    (a_inverse : PySem.W.nsIn K mainGlobals "inverse" = some (some (.ref f_inverse))) (l_inverse : K.lookup f_inverse = some ⟨oc_inverse, od_inverse, .func (PySem.W.fnOf "inverse" "inverse" (defArgs s_inverse) (defBody s_inverse) (defScope s_inverse) .none kV_inverse dc_inverse pm_inverse an_inverse cd_inverse ct_inverse), sl_inverse⟩) (c_inverse : PySem.W.codeIn K cd_inverse "inverse" = true) (k_inverse : PySem.W.keepIn K (.ref f_inverse) = true)
    {od_least_times an_least_times : Option Addr} {sl_least_times : Array (Option Value)} {oc_least_times kV_least_times dc_least_times pm_least_times cd_least_times ct_least_times : Value} {f_least_times : Addr}
    (a_least_times : PySem.W.nsIn K mainGlobals "least_times" = some (some (.ref f_least_times))) (l_least_times : K.lookup f_least_times = some ⟨oc_least_times, od_least_times, .func (PySem.W.fnOf "least_times" "least_times" (defArgs s_least_times) (defBody s_least_times) (defScope s_least_times) .none kV_least_times dc_least_times pm_least_times an_least_times cd_least_times ct_least_times), sl_least_times⟩) (c_least_times : PySem.W.codeIn K cd_least_times "least_times" = true) (k_least_times : PySem.W.keepIn K (.ref f_least_times) = true)
    {od_rests an_rests : Option Addr} {sl_rests : Array (Option Value)} {oc_rests kV_rests dc_rests pm_rests cd_rests ct_rests : Value} {f_rests : Addr}
    (a_rests : PySem.W.nsIn K mainGlobals "rests" = some (some (.ref f_rests))) (l_rests : K.lookup f_rests = some ⟨oc_rests, od_rests, .func (PySem.W.fnOf "rests" "rests" (defArgs s_rests) (defBody s_rests) (defScope s_rests) .none kV_rests dc_rests pm_rests an_rests cd_rests ct_rests), sl_rests⟩) (c_rests : PySem.W.codeIn K cd_rests "rests" = true) (k_rests : PySem.W.keepIn K (.ref f_rests) = true)
    {od_bar_along an_bar_along : Option Addr} {sl_bar_along : Array (Option Value)} {oc_bar_along kV_bar_along dc_bar_along pm_bar_along cd_bar_along ct_bar_along : Value} {f_bar_along : Addr}
    (a_bar_along : PySem.W.nsIn K mainGlobals "bar_along" = some (some (.ref f_bar_along))) (l_bar_along : K.lookup f_bar_along = some ⟨oc_bar_along, od_bar_along, .func (PySem.W.fnOf "bar_along" "bar_along" (defArgs s_bar_along) (defBody s_bar_along) (defScope s_bar_along) .none kV_bar_along dc_bar_along pm_bar_along an_bar_along cd_bar_along ct_bar_along), sl_bar_along⟩) (c_bar_along : PySem.W.codeIn K cd_bar_along "bar_along" = true) (k_bar_along : PySem.W.keepIn K (.ref f_bar_along) = true)
    {od_crossing an_crossing : Option Addr} {sl_crossing : Array (Option Value)} {oc_crossing kV_crossing dc_crossing pm_crossing cd_crossing ct_crossing : Value} {f_crossing : Addr}
    (a_crossing : PySem.W.nsIn K mainGlobals "crossing" = some (some (.ref f_crossing))) (l_crossing : K.lookup f_crossing = some ⟨oc_crossing, od_crossing, .func (PySem.W.fnOf "crossing" "crossing" (defArgs s_crossing) (defBody s_crossing) (defScope s_crossing) .none kV_crossing dc_crossing pm_crossing an_crossing cd_crossing ct_crossing), sl_crossing⟩) (c_crossing : PySem.W.codeIn K cd_crossing "crossing" = true) (k_crossing : PySem.W.keepIn K (.ref f_crossing) = true)
    {od_paper an_paper : Option Addr} {sl_paper : Array (Option Value)} {oc_paper kV_paper dc_paper pm_paper cd_paper ct_paper : Value} {f_paper : Addr}
    (a_paper : PySem.W.nsIn K mainGlobals "paper" = some (some (.ref f_paper))) (l_paper : K.lookup f_paper = some ⟨oc_paper, od_paper, .func (PySem.W.fnOf "paper" "paper" (defArgs s_paper) (defBody s_paper) (defScope s_paper) .none kV_paper dc_paper pm_paper an_paper cd_paper ct_paper), sl_paper⟩) (c_paper : PySem.W.codeIn K cd_paper "paper" = true) (k_paper : PySem.W.keepIn K (.ref f_paper) = true)
    {od_is_filled an_is_filled : Option Addr} {sl_is_filled : Array (Option Value)} {oc_is_filled kV_is_filled dc_is_filled pm_is_filled cd_is_filled ct_is_filled : Value} {f_is_filled : Addr}
    (a_is_filled : PySem.W.nsIn K mainGlobals "is_filled" = some (some (.ref f_is_filled))) (l_is_filled : K.lookup f_is_filled = some ⟨oc_is_filled, od_is_filled, .func (PySem.W.fnOf "is_filled" "is_filled" (defArgs s_is_filled) (defBody s_is_filled) (defScope s_is_filled) .none kV_is_filled dc_is_filled pm_is_filled an_is_filled cd_is_filled ct_is_filled), sl_is_filled⟩) (c_is_filled : PySem.W.codeIn K cd_is_filled "is_filled" = true) (k_is_filled : PySem.W.keepIn K (.ref f_is_filled) = true)
    {od_with_side an_with_side : Option Addr} {sl_with_side : Array (Option Value)} {oc_with_side kV_with_side dc_with_side pm_with_side cd_with_side ct_with_side : Value} {f_with_side : Addr}
    (a_with_side : PySem.W.nsIn K mainGlobals "with_side" = some (some (.ref f_with_side))) (l_with_side : K.lookup f_with_side = some ⟨oc_with_side, od_with_side, .func (PySem.W.fnOf "with_side" "with_side" (defArgs s_with_side) (defBody s_with_side) (defScope s_with_side) .none kV_with_side dc_with_side pm_with_side an_with_side cd_with_side ct_with_side), sl_with_side⟩) (c_with_side : PySem.W.codeIn K cd_with_side "with_side" = true) (k_with_side : PySem.W.keepIn K (.ref f_with_side) = true)
    {od_Builder_init an_Builder_init : Option Addr} {sl_Builder_init : Array (Option Value)} {oc_Builder_init kV_Builder_init dc_Builder_init pm_Builder_init cd_Builder_init ct_Builder_init : Value} {f_Builder_init : Addr}
    (a_Builder_init : PySem.W.findIn K (.ref C_Builder) "__init__" = some (some (.ref f_Builder_init))) (i_Builder_init : PySem.W.isFn K (.ref f_Builder_init) = true) (l_Builder_init : K.lookup f_Builder_init = some ⟨oc_Builder_init, od_Builder_init, .func (PySem.W.fnOf "__init__" "Builder.__init__" (defArgs s_Builder_init) (defBody s_Builder_init) (defScope s_Builder_init) .none kV_Builder_init dc_Builder_init pm_Builder_init an_Builder_init cd_Builder_init ct_Builder_init), sl_Builder_init⟩) (c_Builder_init : PySem.W.codeIn K cd_Builder_init "Builder.__init__" = true) (k_Builder_init : PySem.W.keepIn K (.ref f_Builder_init) = true)
    {od_Builder_add an_Builder_add : Option Addr} {sl_Builder_add : Array (Option Value)} {oc_Builder_add kV_Builder_add dc_Builder_add pm_Builder_add cd_Builder_add ct_Builder_add : Value} {f_Builder_add : Addr}
    (a_Builder_add : PySem.W.findIn K (.ref C_Builder) "add" = some (some (.ref f_Builder_add))) (i_Builder_add : PySem.W.isFn K (.ref f_Builder_add) = true) (l_Builder_add : K.lookup f_Builder_add = some ⟨oc_Builder_add, od_Builder_add, .func (PySem.W.fnOf "add" "Builder.add" (defArgs s_Builder_add) (defBody s_Builder_add) (defScope s_Builder_add) .none kV_Builder_add dc_Builder_add pm_Builder_add an_Builder_add cd_Builder_add ct_Builder_add), sl_Builder_add⟩) (c_Builder_add : PySem.W.codeIn K cd_Builder_add "Builder.add" = true) (k_Builder_add : PySem.W.keepIn K (.ref f_Builder_add) = true)
    {od_Builder_repeated an_Builder_repeated : Option Addr} {sl_Builder_repeated : Array (Option Value)} {oc_Builder_repeated kV_Builder_repeated dc_Builder_repeated pm_Builder_repeated cd_Builder_repeated ct_Builder_repeated : Value} {f_Builder_repeated : Addr}
    (a_Builder_repeated : PySem.W.findIn K (.ref C_Builder) "repeated" = some (some (.ref f_Builder_repeated))) (i_Builder_repeated : PySem.W.isFn K (.ref f_Builder_repeated) = true) (l_Builder_repeated : K.lookup f_Builder_repeated = some ⟨oc_Builder_repeated, od_Builder_repeated, .func (PySem.W.fnOf "repeated" "Builder.repeated" (defArgs s_Builder_repeated) (defBody s_Builder_repeated) (defScope s_Builder_repeated) .none kV_Builder_repeated dc_Builder_repeated pm_Builder_repeated an_Builder_repeated cd_Builder_repeated ct_Builder_repeated), sl_Builder_repeated⟩) (c_Builder_repeated : PySem.W.codeIn K cd_Builder_repeated "Builder.repeated" = true) (k_Builder_repeated : PySem.W.keepIn K (.ref f_Builder_repeated) = true)
    {od_Builder_block an_Builder_block : Option Addr} {sl_Builder_block : Array (Option Value)} {oc_Builder_block kV_Builder_block dc_Builder_block pm_Builder_block cd_Builder_block ct_Builder_block : Value} {f_Builder_block : Addr}
    (a_Builder_block : PySem.W.findIn K (.ref C_Builder) "block" = some (some (.ref f_Builder_block))) (i_Builder_block : PySem.W.isFn K (.ref f_Builder_block) = true) (l_Builder_block : K.lookup f_Builder_block = some ⟨oc_Builder_block, od_Builder_block, .func (PySem.W.fnOf "block" "Builder.block" (defArgs s_Builder_block) (defBody s_Builder_block) (defScope s_Builder_block) .none kV_Builder_block dc_Builder_block pm_Builder_block an_Builder_block cd_Builder_block ct_Builder_block), sl_Builder_block⟩) (c_Builder_block : PySem.W.codeIn K cd_Builder_block "Builder.block" = true) (k_Builder_block : PySem.W.keepIn K (.ref f_Builder_block) = true)
    {od_counts_in an_counts_in : Option Addr} {sl_counts_in : Array (Option Value)} {oc_counts_in kV_counts_in dc_counts_in pm_counts_in cd_counts_in ct_counts_in : Value} {f_counts_in : Addr}
    (a_counts_in : PySem.W.nsIn K mainGlobals "counts_in" = some (some (.ref f_counts_in))) (l_counts_in : K.lookup f_counts_in = some ⟨oc_counts_in, od_counts_in, .func (PySem.W.fnOf "counts_in" "counts_in" (defArgs s_counts_in) (defBody s_counts_in) (defScope s_counts_in) .none kV_counts_in dc_counts_in pm_counts_in an_counts_in cd_counts_in ct_counts_in), sl_counts_in⟩) (c_counts_in : PySem.W.codeIn K cd_counts_in "counts_in" = true) (k_counts_in : PySem.W.keepIn K (.ref f_counts_in) = true)
    {od_plan_for an_plan_for : Option Addr} {sl_plan_for : Array (Option Value)} {oc_plan_for kV_plan_for dc_plan_for pm_plan_for cd_plan_for ct_plan_for : Value} {f_plan_for : Addr}
    (a_plan_for : PySem.W.nsIn K mainGlobals "plan_for" = some (some (.ref f_plan_for))) (l_plan_for : K.lookup f_plan_for = some ⟨oc_plan_for, od_plan_for, .func (PySem.W.fnOf "plan_for" "plan_for" (defArgs s_plan_for) (defBody s_plan_for) (defScope s_plan_for) .none kV_plan_for dc_plan_for pm_plan_for an_plan_for cd_plan_for ct_plan_for), sl_plan_for⟩) (c_plan_for : PySem.W.codeIn K cd_plan_for "plan_for" = true) (k_plan_for : PySem.W.keepIn K (.ref f_plan_for) = true)
    {od_Lwhole an_Lwhole : Option Addr} {sl_Lwhole : Array (Option Value)} {oc_Lwhole kV_Lwhole dc_Lwhole pm_Lwhole cd_Lwhole ct_Lwhole : Value} {f_Lwhole : Addr}
    (a_Lwhole : PySem.W.nsIn K mainGlobals "_law_whole" = some (some (.ref f_Lwhole))) (l_Lwhole : K.lookup f_Lwhole = some ⟨oc_Lwhole, od_Lwhole, .func (PySem.W.fnOf "_law_whole" "_law_whole" (defArgs s_Lwhole) (defBody s_Lwhole) (defScope s_Lwhole) .none kV_Lwhole dc_Lwhole pm_Lwhole an_Lwhole cd_Lwhole ct_Lwhole), sl_Lwhole⟩) (c_Lwhole : PySem.W.codeIn K cd_Lwhole "_law_whole" = true) (k_Lwhole : PySem.W.keepIn K (.ref f_Lwhole) = true)
    {od_Lis_row an_Lis_row : Option Addr} {sl_Lis_row : Array (Option Value)} {oc_Lis_row kV_Lis_row dc_Lis_row pm_Lis_row cd_Lis_row ct_Lis_row : Value} {f_Lis_row : Addr}
    (a_Lis_row : PySem.W.nsIn K mainGlobals "_law_is_row" = some (some (.ref f_Lis_row))) (l_Lis_row : K.lookup f_Lis_row = some ⟨oc_Lis_row, od_Lis_row, .func (PySem.W.fnOf "_law_is_row" "_law_is_row" (defArgs s_Lis_row) (defBody s_Lis_row) (defScope s_Lis_row) .none kV_Lis_row dc_Lis_row pm_Lis_row an_Lis_row cd_Lis_row ct_Lis_row), sl_Lis_row⟩) (c_Lis_row : PySem.W.codeIn K cd_Lis_row "_law_is_row" = true) (k_Lis_row : PySem.W.keepIn K (.ref f_Lis_row) = true)
    {od_Lput an_Lput : Option Addr} {sl_Lput : Array (Option Value)} {oc_Lput kV_Lput dc_Lput pm_Lput cd_Lput ct_Lput : Value} {f_Lput : Addr}
    (a_Lput : PySem.W.nsIn K mainGlobals "_law_put" = some (some (.ref f_Lput))) (l_Lput : K.lookup f_Lput = some ⟨oc_Lput, od_Lput, .func (PySem.W.fnOf "_law_put" "_law_put" (defArgs s_Lput) (defBody s_Lput) (defScope s_Lput) .none kV_Lput dc_Lput pm_Lput an_Lput cd_Lput ct_Lput), sl_Lput⟩) (c_Lput : PySem.W.codeIn K cd_Lput "_law_put" = true) (k_Lput : PySem.W.keepIn K (.ref f_Lput) = true)
    {od_Lplan_error an_Lplan_error : Option Addr} {sl_Lplan_error : Array (Option Value)} {oc_Lplan_error kV_Lplan_error dc_Lplan_error pm_Lplan_error cd_Lplan_error ct_Lplan_error : Value} {f_Lplan_error : Addr}
    (a_Lplan_error : PySem.W.nsIn K mainGlobals "_law_plan_error" = some (some (.ref f_Lplan_error))) (l_Lplan_error : K.lookup f_Lplan_error = some ⟨oc_Lplan_error, od_Lplan_error, .func (PySem.W.fnOf "_law_plan_error" "_law_plan_error" (defArgs s_Lplan_error) (defBody s_Lplan_error) (defScope s_Lplan_error) .none kV_Lplan_error dc_Lplan_error pm_Lplan_error an_Lplan_error cd_Lplan_error ct_Lplan_error), sl_Lplan_error⟩) (c_Lplan_error : PySem.W.codeIn K cd_Lplan_error "_law_plan_error" = true) (k_Lplan_error : PySem.W.keepIn K (.ref f_Lplan_error) = true)
    {od_Lplan_boxes an_Lplan_boxes : Option Addr} {sl_Lplan_boxes : Array (Option Value)} {oc_Lplan_boxes kV_Lplan_boxes dc_Lplan_boxes pm_Lplan_boxes cd_Lplan_boxes ct_Lplan_boxes : Value} {f_Lplan_boxes : Addr}
    (a_Lplan_boxes : PySem.W.nsIn K mainGlobals "_law_plan_boxes" = some (some (.ref f_Lplan_boxes))) (l_Lplan_boxes : K.lookup f_Lplan_boxes = some ⟨oc_Lplan_boxes, od_Lplan_boxes, .func (PySem.W.fnOf "_law_plan_boxes" "_law_plan_boxes" (defArgs s_Lplan_boxes) (defBody s_Lplan_boxes) (defScope s_Lplan_boxes) .none kV_Lplan_boxes dc_Lplan_boxes pm_Lplan_boxes an_Lplan_boxes cd_Lplan_boxes ct_Lplan_boxes), sl_Lplan_boxes⟩) (c_Lplan_boxes : PySem.W.codeIn K cd_Lplan_boxes "_law_plan_boxes" = true) (k_Lplan_boxes : PySem.W.keepIn K (.ref f_Lplan_boxes) = true)
    {od_Lplan_bricks an_Lplan_bricks : Option Addr} {sl_Lplan_bricks : Array (Option Value)} {oc_Lplan_bricks kV_Lplan_bricks dc_Lplan_bricks pm_Lplan_bricks cd_Lplan_bricks ct_Lplan_bricks : Value} {f_Lplan_bricks : Addr}
    (a_Lplan_bricks : PySem.W.nsIn K mainGlobals "_law_plan_bricks" = some (some (.ref f_Lplan_bricks))) (l_Lplan_bricks : K.lookup f_Lplan_bricks = some ⟨oc_Lplan_bricks, od_Lplan_bricks, .func (PySem.W.fnOf "_law_plan_bricks" "_law_plan_bricks" (defArgs s_Lplan_bricks) (defBody s_Lplan_bricks) (defScope s_Lplan_bricks) .none kV_Lplan_bricks dc_Lplan_bricks pm_Lplan_bricks an_Lplan_bricks cd_Lplan_bricks ct_Lplan_bricks), sl_Lplan_bricks⟩) (c_Lplan_bricks : PySem.W.codeIn K cd_Lplan_bricks "_law_plan_bricks" = true) (k_Lplan_bricks : PySem.W.keepIn K (.ref f_Lplan_bricks) = true)
    {od_Lright an_Lright : Option Addr} {sl_Lright : Array (Option Value)} {oc_Lright kV_Lright dc_Lright pm_Lright cd_Lright ct_Lright : Value} {f_Lright : Addr}
    (a_Lright : PySem.W.nsIn K mainGlobals "_law_right" = some (some (.ref f_Lright))) (l_Lright : K.lookup f_Lright = some ⟨oc_Lright, od_Lright, .func (PySem.W.fnOf "_law_right" "_law_right" (defArgs s_Lright) (defBody s_Lright) (defScope s_Lright) .none kV_Lright dc_Lright pm_Lright an_Lright cd_Lright ct_Lright), sl_Lright⟩) (c_Lright : PySem.W.codeIn K cd_Lright "_law_right" = true) (k_Lright : PySem.W.keepIn K (.ref f_Lright) = true)
    {od_law an_law : Option Addr} {sl_law : Array (Option Value)} {oc_law kV_law dc_law pm_law cd_law ct_law : Value} {f_law : Addr}
    (a_law : PySem.W.nsIn K mainGlobals "law" = some (some (.ref f_law))) (l_law : K.lookup f_law = some ⟨oc_law, od_law, .func (PySem.W.fnOf "law" "law" (defArgs s_law) (defBody s_law) (defScope s_law) .none kV_law dc_law pm_law an_law cd_law ct_law), sl_law⟩) (c_law : PySem.W.codeIn K cd_law "law" = true) (k_law : PySem.W.keepIn K (.ref f_law) = true)
    (z_abs : PySem.W.nsIn K mainGlobals "abs" = some none)
    (z_len : PySem.W.nsIn K mainGlobals "len" = some none)
    (z_int : PySem.W.nsIn K mainGlobals "int" = some none)
    (z_range : PySem.W.nsIn K mainGlobals "range" = some none)
    (z_tuple : PySem.W.nsIn K mainGlobals "tuple" = some none)
    (z_list : PySem.W.nsIn K mainGlobals "list" = some none)
    (z_max : PySem.W.nsIn K mainGlobals "max" = some none)
    (z_zip : PySem.W.nsIn K mainGlobals "zip" = some none)
    (z_enumerate : PySem.W.nsIn K mainGlobals "enumerate" = some none)
    (z_any : PySem.W.nsIn K mainGlobals "any" = some none)
    (z_isinstance : PySem.W.nsIn K mainGlobals "isinstance" = some none)
    (z_bool : PySem.W.nsIn K mainGlobals "bool" = some none)
    (z_repr : PySem.W.nsIn K mainGlobals "repr" = some none)
    (z_min : PySem.W.nsIn K mainGlobals "min" = some none)
    {t_GAP : Tok} (v_GAP : PySem.W.nsIn K mainGlobals "GAP" = some (some (.str "gap" t_GAP)))
    {t_STEP : Tok} (v_STEP : PySem.W.nsIn K mainGlobals "STEP" = some (some (.str "step" t_STEP)))
    {t_SIDES : Tok} (v_SIDES : PySem.W.nsIn K mainGlobals "SIDES" = some (some (.str "sides" t_SIDES)))
    {t_CUT : Tok} (v_CUT : PySem.W.nsIn K mainGlobals "CUT" = some (some (.str "cut" t_CUT))) :
    ∃ fd : FuncData, (∀ (s : Shared) (v : Value), BindsTo s fd ⟨[v], []⟩ [("_law_script", v)]) ∧ ∀ base : Heap, K.In base → base.Ns mainGlobals mg → FnG l.prog w K mg base CX0 8 fa fd ["_law_script"] (liftSp K spLaw) := by
  have e := hfa.symm.trans (PySem.W.mg_of X G a_law)
  cases e
  have F_Ldeck := fun_mk (st := s_Ldeck) l_Ldeck c_Ldeck k_Ldeck
  have b_Ldeck := F_Ldeck.binds (ps := ["_law_script"]) fun _ _ _ _ _ _ us hl => match us, hl with | [_], _ => rfl
  have F_Ldraw := fun_mk (st := s_Ldraw) l_Ldraw c_Ldraw k_Ldraw
  have b_Ldraw := F_Ldraw.binds (ps := ["_law_deck_here", "_law_many"]) fun _ _ _ _ _ _ us hl => match us, hl with | [_, _], _ => rfl
  have F_Lone := fun_mk (st := s_Lone) l_Lone c_Lone k_Lone
  have b_Lone := F_Lone.binds (ps := ["_law_deck_here", "_law_items"]) fun _ _ _ _ _ _ us hl => match us, hl with | [_, _], _ => rfl
  have F_Lsides := fun_mk (st := s_Lsides) l_Lsides c_Lsides k_Lsides
  have b_Lsides := F_Lsides.binds (ps := ["_law_deck_here", "_law_axes", "_law_most"]) fun _ _ _ _ _ _ us hl => match us, hl with | [_, _, _], _ => rfl
  have F_Lpair := fun_mk (st := s_Lpair) l_Lpair c_Lpair k_Lpair
  have b_Lpair := F_Lpair.binds (ps := ["_law_deck_here", "_law_axes", "_law_most"]) fun _ _ _ _ _ _ us hl => match us, hl with | [_, _, _], _ => rfl
  have F_Lvolume := fun_mk (st := s_Lvolume) l_Lvolume c_Lvolume k_Lvolume
  have b_Lvolume := F_Lvolume.binds (ps := ["_law_sides_here"]) fun _ _ _ _ _ _ us hl => match us, hl with | [_], _ => rfl
  have F_Ldivisor := fun_mk (st := s_Ldivisor) l_Ldivisor c_Ldivisor k_Ldivisor
  have b_Ldivisor := F_Ldivisor.binds (ps := ["_law_one_here", "_law_other"]) fun _ _ _ _ _ _ us hl => match us, hl with | [_, _], _ => rfl
  have F_Llcm := fun_mk (st := s_Llcm) l_Llcm c_Llcm k_Llcm
  have b_Llcm := F_Llcm.binds (ps := ["_law_one_here", "_law_other"]) fun _ _ _ _ _ _ us hl => match us, hl with | [_, _], _ => rfl
  have F_Lcut_box := fun_mk (st := s_Lcut_box) l_Lcut_box c_Lcut_box k_Lcut_box
  have b_Lcut_box := F_Lcut_box.binds (ps := ["_law_deck_here", "_law_pair_here", "_law_many"]) fun _ _ _ _ _ _ us hl => match us, hl with | [_, _, _], _ => rfl
  have F_Lplain_box := fun_mk (st := s_Lplain_box) l_Lplain_box c_Lplain_box k_Lplain_box
  have b_Lplain_box := F_Lplain_box.binds (ps := ["_law_deck_here", "_law_pair_here", "_law_many"]) fun _ _ _ _ _ _ us hl => match us, hl with | [_, _, _], _ => rfl
  have F_Lbox := fun_mk (st := s_Lbox) l_Lbox c_Lbox k_Lbox
  have b_Lbox := F_Lbox.binds (ps := ["_law_deck_here", "_law_pair_here", "_law_most", "_law_cells"]) fun _ _ _ _ _ _ us hl => match us, hl with | [_, _, _, _], _ => rfl
  have F_Lrests := fun_mk (st := s_Lrests) l_Lrests c_Lrests k_Lrests
  have b_Lrests := F_Lrests.binds (ps := ["_law_brick", "_law_box_here"]) fun _ _ _ _ _ _ us hl => match us, hl with | [_, _], _ => rfl
  have F_Lfar_sum := fun_mk (st := s_Lfar_sum) l_Lfar_sum c_Lfar_sum k_Lfar_sum
  have b_Lfar_sum := F_Lfar_sum.binds (ps := ["_law_side", "_law_one_here", "_law_other"]) fun _ _ _ _ _ _ us hl => match us, hl with | [_, _, _], _ => rfl
  have F_Lfar_filled := fun_mk (st := s_Lfar_filled) l_Lfar_filled c_Lfar_filled k_Lfar_filled
  have b_Lfar_filled := F_Lfar_filled.binds (ps := ["_law_pair_here", "_law_box_here"]) fun _ _ _ _ _ _ us hl => match us, hl with | [_, _], _ => rfl
  have F_Lfar_box := fun_mk (st := s_Lfar_box) l_Lfar_box c_Lfar_box k_Lfar_box
  have b_Lfar_box := F_Lfar_box.binds (ps := ["_law_deck_here", "_law_pair_here"]) fun _ _ _ _ _ _ us hl => match us, hl with | [_, _], _ => rfl
  have F_common := fun_mk (st := s_common) l_common c_common k_common
  have b_common := F_common.binds (ps := ["one", "other"]) fun _ _ _ _ _ _ us hl => match us, hl with | [_, _], _ => rfl
  have F_inverse := fun_mk (st := s_inverse) l_inverse c_inverse k_inverse
  have b_inverse := F_inverse.binds (ps := ["one", "other"]) fun _ _ _ _ _ _ us hl => match us, hl with | [_, _], _ => rfl
  have F_least_times := fun_mk (st := s_least_times) l_least_times c_least_times k_least_times
  have b_least_times := F_least_times.binds (ps := ["one", "other", "side"]) fun _ _ _ _ _ _ us hl => match us, hl with | [_, _, _], _ => rfl
  have F_rests := fun_mk (st := s_rests) l_rests c_rests k_rests
  have b_rests := F_rests.binds (ps := ["brick", "box"]) fun _ _ _ _ _ _ us hl => match us, hl with | [_, _], _ => rfl
  have F_bar_along := fun_mk (st := s_bar_along) l_bar_along c_bar_along k_bar_along
  have b_bar_along := F_bar_along.binds (ps := ["pair", "box", "axis"]) fun _ _ _ _ _ _ us hl => match us, hl with | [_, _, _], _ => rfl
  have F_crossing := fun_mk (st := s_crossing) l_crossing c_crossing k_crossing
  have b_crossing := F_crossing.binds (ps := ["pair", "box"]) fun _ _ _ _ _ _ us hl => match us, hl with | [_, _], _ => rfl
  have F_paper := fun_mk (st := s_paper) l_paper c_paper k_paper
  have b_paper := F_paper.binds (ps := ["pair", "box"]) fun _ _ _ _ _ _ us hl => match us, hl with | [_, _], _ => rfl
  have F_is_filled := fun_mk (st := s_is_filled) l_is_filled c_is_filled k_is_filled
  have b_is_filled := F_is_filled.binds (ps := ["pair", "box"]) fun _ _ _ _ _ _ us hl => match us, hl with | [_, _], _ => rfl
  have F_with_side := fun_mk (st := s_with_side) l_with_side c_with_side k_with_side
  have b_with_side := F_with_side.binds (ps := ["box", "axis", "side"]) fun _ _ _ _ _ _ us hl => match us, hl with | [_, _, _], _ => rfl
  have F_Builder_init := fun_mk (st := s_Builder_init) l_Builder_init c_Builder_init k_Builder_init
  have b_Builder_init := F_Builder_init.binds (ps := ["self"]) fun _ _ _ _ _ _ us hl => match us, hl with | [_], _ => rfl
  have F_Builder_add := fun_mk (st := s_Builder_add) l_Builder_add c_Builder_add k_Builder_add
  have b_Builder_add := F_Builder_add.binds (ps := ["self", "row"]) fun _ _ _ _ _ _ us hl => match us, hl with | [_, _], _ => rfl
  have F_Builder_repeated := fun_mk (st := s_Builder_repeated) l_Builder_repeated c_Builder_repeated k_Builder_repeated
  have b_Builder_repeated := F_Builder_repeated.binds (ps := ["self", "axis", "index", "count"]) fun _ _ _ _ _ _ us hl => match us, hl with | [_, _, _, _], _ => rfl
  have F_Builder_block := fun_mk (st := s_Builder_block) l_Builder_block c_Builder_block k_Builder_block
  have b_Builder_block := F_Builder_block.binds (ps := ["self", "kind", "counts"]) fun _ _ _ _ _ _ us hl => match us, hl with | [_, _, _], _ => rfl
  have F_counts_in := fun_mk (st := s_counts_in) l_counts_in c_counts_in k_counts_in
  have b_counts_in := F_counts_in.binds (ps := ["brick", "box"]) fun _ _ _ _ _ _ us hl => match us, hl with | [_, _], _ => rfl
  have F_plan_for := fun_mk (st := s_plan_for) l_plan_for c_plan_for k_plan_for
  have b_plan_for := F_plan_for.binds (ps := ["pair", "box"]) fun _ _ _ _ _ _ us hl => match us, hl with | [_, _], _ => rfl
  have F_Lwhole := fun_mk (st := s_Lwhole) l_Lwhole c_Lwhole k_Lwhole
  have b_Lwhole := F_Lwhole.binds (ps := ["_law_value", "_law_least", "_law_most"]) fun _ _ _ _ _ _ us hl => match us, hl with | [_, _, _], _ => rfl
  have F_Lis_row := fun_mk (st := s_Lis_row) l_Lis_row c_Lis_row k_Lis_row
  have b_Lis_row := F_Lis_row.binds (ps := ["_law_kinds", "_law_value", "_law_index"]) fun _ _ _ _ _ _ us hl => match us, hl with | [_, _, _], _ => rfl
  have F_Lput := fun_mk (st := s_Lput) l_Lput c_Lput k_Lput
  have b_Lput := F_Lput.binds (ps := ["_law_one_here", "_law_other", "_law_axis"]) fun _ _ _ _ _ _ us hl => match us, hl with | [_, _, _], _ => rfl
  have F_Lplan_error := fun_mk (st := s_Lplan_error) l_Lplan_error c_Lplan_error k_Lplan_error
  have b_Lplan_error := F_Lplan_error.binds (ps := ["_law_kinds", "_law_value"]) fun _ _ _ _ _ _ us hl => match us, hl with | [_, _], _ => rfl
  have F_Lplan_boxes := fun_mk (st := s_Lplan_boxes) l_Lplan_boxes c_Lplan_boxes k_Lplan_boxes
  have b_Lplan_boxes := F_Lplan_boxes.binds (ps := ["_law_kinds", "_law_plan"]) fun _ _ _ _ _ _ us hl => match us, hl with | [_, _], _ => rfl
  have F_Lplan_bricks := fun_mk (st := s_Lplan_bricks) l_Lplan_bricks c_Lplan_bricks k_Lplan_bricks
  have b_Lplan_bricks := F_Lplan_bricks.binds (ps := ["_law_kinds", "_law_plan"]) fun _ _ _ _ _ _ us hl => match us, hl with | [_, _], _ => rfl
  have F_Lright := fun_mk (st := s_Lright) l_Lright c_Lright k_Lright
  have b_Lright := F_Lright.binds (ps := ["_law_pair_here", "_law_box_here", "_law_due"]) fun _ _ _ _ _ _ us hl => match us, hl with | [_, _, _], _ => rfl
  have F_law := fun_mk (st := s_law) l_law c_law k_law
  refine ⟨PySem.W.fnOf "law" "law" (defArgs s_law) (defBody s_law) (defScope s_law) .none kV_law dc_law pm_law an_law cd_law ct_law, fun s v => .of_eq rfl, fun base _ _ => ?_⟩
  have O_Ldeck := ok_Ldeck (P := l.prog) (w := w) (base := base) (mg := mg) F_Ldeck (PySem.W.mg_none_of X G z_abs) (PySem.W.mg_none_of X G z_len)
  have O_Ldraw := ok_Ldraw (P := l.prog) (w := w) (base := base) (mg := mg) F_Ldraw (PySem.W.mg_none_of X G z_int) (PySem.W.mg_none_of X G z_len)
  have O_Lvolume := ok_Lvolume (P := l.prog) (w := w) (base := base) (mg := mg) F_Lvolume
  have O_Ldivisor := ok_Ldivisor (P := l.prog) (w := w) (base := base) (mg := mg) F_Ldivisor
  have O_Lrests := ok_Lrests (P := l.prog) (w := w) (base := base) (mg := mg) F_Lrests (PySem.W.mg_none_of X G z_len) (PySem.W.mg_none_of X G z_range) (PySem.W.mg_none_of X G z_int)
  have O_Lfar_sum := ok_Lfar_sum (P := l.prog) (w := w) (base := base) (mg := mg) F_Lfar_sum (PySem.W.mg_none_of X G z_range) (PySem.W.mg_none_of X G z_int)
  have O_common := ok_common (P := l.prog) (w := w) (base := base) (mg := mg) F_common
  have O_inverse := ok_inverse (P := l.prog) (w := w) (base := base) (mg := mg) F_inverse
  have O_rests := ok_rests (P := l.prog) (w := w) (base := base) (mg := mg) F_rests (PySem.W.mg_none_of X G z_enumerate)
  have O_with_side := ok_with_side (P := l.prog) (w := w) (base := base) (mg := mg) F_with_side
  have O_Builder_init := ok_Builder_init (P := l.prog) (w := w) (base := base) (mg := mg) F_Builder_init ob_Builder na_Builder_rows
  have O_Builder_add := ok_Builder_add (P := l.prog) (w := w) (base := base) (mg := mg) F_Builder_add ob_Builder na_Builder_rows (PySem.W.mg_none_of X G z_len)
  have O_counts_in := ok_counts_in (P := l.prog) (w := w) (base := base) (mg := mg) F_counts_in (PySem.W.mg_none_of X G z_zip) (PySem.W.mg_none_of X G z_tuple) (PySem.W.mg_none_of X G z_any)
  have O_Lwhole := ok_Lwhole (P := l.prog) (w := w) (base := base) (mg := mg) F_Lwhole (PySem.W.mg_none_of X G z_isinstance) (PySem.W.mg_none_of X G z_bool) (PySem.W.mg_none_of X G z_int)
  have O_Lput := ok_Lput (P := l.prog) (w := w) (base := base) (mg := mg) F_Lput (PySem.W.mg_none_of X G z_len) (PySem.W.mg_none_of X G z_range)
  have O_Lplan_bricks := ok_Lplan_bricks (P := l.prog) (w := w) (base := base) (mg := mg) F_Lplan_bricks (PySem.W.mg_none_of X G z_tuple) (PySem.W.mg_none_of X G z_len) (PySem.W.mg_none_of X G z_range) (PySem.W.mg_none_of X G z_int) (PySem.W.mg_none_of X G z_zip)
  have O_Lone := ok_Lone (P := l.prog) (w := w) (base := base) (mg := mg) F_Lone (PySem.W.mg_none_of X G z_len) O_Ldraw (PySem.W.mg_of X G a_Ldraw) k_Ldraw b_Ldraw
  have O_Lsides := ok_Lsides (P := l.prog) (w := w) (base := base) (mg := mg) F_Lsides (PySem.W.mg_none_of X G z_range) (PySem.W.mg_none_of X G z_tuple) O_Ldraw (PySem.W.mg_of X G a_Ldraw) k_Ldraw b_Ldraw
  have O_Llcm := ok_Llcm (P := l.prog) (w := w) (base := base) (mg := mg) F_Llcm O_Ldivisor (PySem.W.mg_of X G a_Ldivisor) k_Ldivisor b_Ldivisor
  have O_Lfar_filled := ok_Lfar_filled (P := l.prog) (w := w) (base := base) (mg := mg) F_Lfar_filled (PySem.W.mg_none_of X G z_len) O_Lfar_sum (PySem.W.mg_of X G a_Lfar_sum) k_Lfar_sum b_Lfar_sum O_Lrests (PySem.W.mg_of X G a_Lrests) k_Lrests b_Lrests
  have O_least_times := ok_least_times (P := l.prog) (w := w) (base := base) (mg := mg) F_least_times O_inverse (PySem.W.mg_of X G a_inverse) k_inverse b_inverse O_common (PySem.W.mg_of X G a_common) k_common b_common
  have O_crossing := ok_crossing (P := l.prog) (w := w) (base := base) (mg := mg) F_crossing (PySem.W.mg_of X G v_SIDES) O_rests (PySem.W.mg_of X G a_rests) k_rests b_rests
  have O_Builder_repeated := ok_Builder_repeated (P := l.prog) (w := w) (base := base) (mg := mg) F_Builder_repeated ob_Builder O_Builder_add ⟨a_Builder_add, i_Builder_add, k_Builder_add⟩ b_Builder_add
  have O_Lis_row := ok_Lis_row (P := l.prog) (w := w) (base := base) (mg := mg) F_Lis_row (PySem.W.mg_none_of X G z_len) (PySem.W.mg_none_of X G z_isinstance) (PySem.W.mg_none_of X G z_tuple) O_Lwhole (PySem.W.mg_of X G a_Lwhole) k_Lwhole b_Lwhole
  have O_Lplan_boxes := ok_Lplan_boxes (P := l.prog) (w := w) (base := base) (mg := mg) F_Lplan_boxes (PySem.W.mg_none_of X G z_len) O_Lput (PySem.W.mg_of X G a_Lput) k_Lput b_Lput
  have O_Lpair := ok_Lpair (P := l.prog) (w := w) (base := base) (mg := mg) F_Lpair O_Ldraw (PySem.W.mg_of X G a_Ldraw) k_Ldraw b_Ldraw O_Lsides (PySem.W.mg_of X G a_Lsides) k_Lsides b_Lsides
  have O_Lcut_box := ok_Lcut_box (P := l.prog) (w := w) (base := base) (mg := mg) F_Lcut_box (PySem.W.mg_none_of X G z_tuple) (PySem.W.mg_none_of X G z_len) (PySem.W.mg_none_of X G z_range) O_Ldraw (PySem.W.mg_of X G a_Ldraw) k_Ldraw b_Ldraw O_Llcm (PySem.W.mg_of X G a_Llcm) k_Llcm b_Llcm
  have O_Lplain_box := ok_Lplain_box (P := l.prog) (w := w) (base := base) (mg := mg) F_Lplain_box (PySem.W.mg_none_of X G z_tuple) (PySem.W.mg_none_of X G z_list) O_Ldraw (PySem.W.mg_of X G a_Ldraw) k_Ldraw b_Ldraw O_Lone (PySem.W.mg_of X G a_Lone) k_Lone b_Lone
  have O_Lfar_box := ok_Lfar_box (P := l.prog) (w := w) (base := base) (mg := mg) F_Lfar_box (PySem.W.mg_none_of X G z_tuple) (PySem.W.mg_none_of X G z_zip) (PySem.W.mg_none_of X G z_list) (PySem.W.mg_none_of X G z_len) O_Ldraw (PySem.W.mg_of X G a_Ldraw) k_Ldraw b_Ldraw O_Lone (PySem.W.mg_of X G a_Lone) k_Lone b_Lone O_Llcm (PySem.W.mg_of X G a_Llcm) k_Llcm b_Llcm
  have O_bar_along := ok_bar_along (P := l.prog) (w := w) (base := base) (mg := mg) F_bar_along (PySem.W.mg_of X G v_GAP) (PySem.W.mg_of X G v_STEP) O_least_times (PySem.W.mg_of X G a_least_times) k_least_times b_least_times
  have O_Builder_block := ok_Builder_block (P := l.prog) (w := w) (base := base) (mg := mg) F_Builder_block ob_Builder (PySem.W.mg_none_of X G z_enumerate) O_Builder_repeated ⟨a_Builder_repeated, i_Builder_repeated, k_Builder_repeated⟩ b_Builder_repeated O_Builder_add ⟨a_Builder_add, i_Builder_add, k_Builder_add⟩ b_Builder_add
  have O_Lplan_error := ok_Lplan_error (P := l.prog) (w := w) (base := base) (mg := mg) F_Lplan_error (PySem.W.mg_none_of X G z_len) (PySem.W.mg_none_of X G z_range) (PySem.W.mg_none_of X G z_max) (PySem.W.mg_none_of X G z_isinstance) (PySem.W.mg_none_of X G z_tuple) O_Lput (PySem.W.mg_of X G a_Lput) k_Lput b_Lput O_Lis_row (PySem.W.mg_of X G a_Lis_row) k_Lis_row b_Lis_row
  have O_Lbox := ok_Lbox (P := l.prog) (w := w) (base := base) (mg := mg) F_Lbox (PySem.W.mg_none_of X G z_len) (PySem.W.mg_none_of X G z_range) (PySem.W.mg_none_of X G z_max) O_Lvolume (PySem.W.mg_of X G a_Lvolume) k_Lvolume b_Lvolume O_Lone (PySem.W.mg_of X G a_Lone) k_Lone b_Lone O_Lplain_box (PySem.W.mg_of X G a_Lplain_box) k_Lplain_box b_Lplain_box O_Lcut_box (PySem.W.mg_of X G a_Lcut_box) k_Lcut_box b_Lcut_box O_Ldraw (PySem.W.mg_of X G a_Ldraw) k_Ldraw b_Ldraw O_Lsides (PySem.W.mg_of X G a_Lsides) k_Lsides b_Lsides
  have O_paper := ok_paper (P := l.prog) (w := w) (base := base) (mg := mg) F_paper (PySem.W.mg_none_of X G z_enumerate) (PySem.W.mg_of X G v_CUT) O_least_times (PySem.W.mg_of X G a_least_times) k_least_times b_least_times O_bar_along (PySem.W.mg_of X G a_bar_along) k_bar_along b_bar_along O_rests (PySem.W.mg_of X G a_rests) k_rests b_rests O_crossing (PySem.W.mg_of X G a_crossing) k_crossing b_crossing
  have O_is_filled := ok_is_filled (P := l.prog) (w := w) (base := base) (mg := mg) F_is_filled (PySem.W.mg_of X G v_CUT) O_paper (PySem.W.mg_of X G a_paper) k_paper b_paper
  have O_plan_for := ok_plan_for (P := l.prog) (w := w) (base := base) (mg := mg) F_plan_for ob_Builder na_Builder_rows (PySem.W.mg_none_of X G z_tuple) (PySem.W.mg_none_of X G z_enumerate) O_Builder_add ⟨a_Builder_add, i_Builder_add, k_Builder_add⟩ b_Builder_add O_Builder_block ⟨a_Builder_block, i_Builder_block, k_Builder_block⟩ b_Builder_block O_counts_in (PySem.W.mg_of X G a_counts_in) k_counts_in b_counts_in O_with_side (PySem.W.mg_of X G a_with_side) k_with_side b_with_side O_least_times (PySem.W.mg_of X G a_least_times) k_least_times b_least_times O_Builder_init ⟨mm_Builder, a_Builder_init, i_Builder_init, mp_Builder⟩ (PySem.W.mg_of X G ac_Builder) b_Builder_init O_is_filled (PySem.W.mg_of X G a_is_filled) k_is_filled b_is_filled
  have O_Lright := ok_Lright (P := l.prog) (w := w) (base := base) (mg := mg) F_Lright (PySem.W.mg_none_of X G z_repr) O_Lvolume (PySem.W.mg_of X G a_Lvolume) k_Lvolume b_Lvolume O_Lplan_bricks (PySem.W.mg_of X G a_Lplan_bricks) k_Lplan_bricks b_Lplan_bricks O_Lplan_boxes (PySem.W.mg_of X G a_Lplan_boxes) k_Lplan_boxes b_Lplan_boxes O_Lplan_error (PySem.W.mg_of X G a_Lplan_error) k_Lplan_error b_Lplan_error O_plan_for (PySem.W.mg_of X G a_plan_for) k_plan_for b_plan_for
  have O_law := ok_law (P := l.prog) (w := w) (base := base) (mg := mg) F_law (PySem.W.mg_none_of X G z_range) (PySem.W.mg_none_of X G z_tuple) (PySem.W.mg_none_of X G z_min) O_Lright (PySem.W.mg_of X G a_Lright) k_Lright b_Lright O_Ldraw (PySem.W.mg_of X G a_Ldraw) k_Ldraw b_Ldraw O_Lfar_filled (PySem.W.mg_of X G a_Lfar_filled) k_Lfar_filled b_Lfar_filled O_Lfar_box (PySem.W.mg_of X G a_Lfar_box) k_Lfar_box b_Lfar_box O_Lbox (PySem.W.mg_of X G a_Lbox) k_Lbox b_Lbox O_Lpair (PySem.W.mg_of X G a_Lpair) k_Lpair b_Lpair O_Lone (PySem.W.mg_of X G a_Lone) k_Lone b_Lone O_Ldeck (PySem.W.mg_of X G a_Ldeck) k_Ldeck b_Ldeck
  exact O_law
end K66
open PySem PySem.W PyProof.Rows
set_option maxHeartbeats 0 in
theorem PySem.Challenge.cw_twobricks_k66_plans_for_boxes_holds : PySem.Challenge.rw_twobricks_k66_plans_for_boxes.Holds := by
  w_on; o_law; k_head; (case hw => w_witness2)
  k_fill
  refine DL.walkG (l := PySem.Challenge.rw_twobricks_k66_plans_for_boxes) (n := 63) (k := 8) (x := "_law_script") (sp := fun K => DL.liftSp K DL.spLaw) rfl (by decide) rfl ⟨rfl, by decide, by decide⟩ (fun w h Y => PySem.W.kIn_of Y) ?F (fun _ _ a ns hl _ hS => DL.law_start hS)
  case F =>
    intro w mg fa h KX G hmg
    refine' K66.all_mk KX G hmg ?ac_Builder ?ob_Builder ?mm_Builder ?mp_Builder ?na_Builder_rows ?a_Ldeck ?l_Ldeck ?c_Ldeck ?k_Ldeck ?a_Ldraw ?l_Ldraw ?c_Ldraw ?k_Ldraw ?a_Lone ?l_Lone ?c_Lone ?k_Lone ?a_Lsides ?l_Lsides ?c_Lsides ?k_Lsides ?a_Lpair ?l_Lpair ?c_Lpair ?k_Lpair ?a_Lvolume ?l_Lvolume ?c_Lvolume ?k_Lvolume ?a_Ldivisor ?l_Ldivisor ?c_Ldivisor ?k_Ldivisor ?a_Llcm ?l_Llcm ?c_Llcm ?k_Llcm ?a_Lcut_box ?l_Lcut_box ?c_Lcut_box ?k_Lcut_box ?a_Lplain_box ?l_Lplain_box ?c_Lplain_box ?k_Lplain_box ?a_Lbox ?l_Lbox ?c_Lbox ?k_Lbox ?a_Lrests ?l_Lrests ?c_Lrests ?k_Lrests ?a_Lfar_sum ?l_Lfar_sum ?c_Lfar_sum ?k_Lfar_sum ?a_Lfar_filled ?l_Lfar_filled ?c_Lfar_filled ?k_Lfar_filled ?a_Lfar_box ?l_Lfar_box ?c_Lfar_box ?k_Lfar_box ?a_common ?l_common ?c_common ?k_common ?a_inverse ?l_inverse ?c_inverse ?k_inverse ?a_least_times ?l_least_times ?c_least_times ?k_least_times ?a_rests ?l_rests ?c_rests ?k_rests ?a_bar_along ?l_bar_along ?c_bar_along ?k_bar_along ?a_crossing ?l_crossing ?c_crossing ?k_crossing ?a_paper ?l_paper ?c_paper ?k_paper ?a_is_filled ?l_is_filled ?c_is_filled ?k_is_filled ?a_with_side ?l_with_side ?c_with_side ?k_with_side ?a_Builder_init ?i_Builder_init ?l_Builder_init ?c_Builder_init ?k_Builder_init ?a_Builder_add ?i_Builder_add ?l_Builder_add ?c_Builder_add ?k_Builder_add ?a_Builder_repeated ?i_Builder_repeated ?l_Builder_repeated ?c_Builder_repeated ?k_Builder_repeated ?a_Builder_block ?i_Builder_block ?l_Builder_block ?c_Builder_block ?k_Builder_block ?a_counts_in ?l_counts_in ?c_counts_in ?k_counts_in ?a_plan_for ?l_plan_for ?c_plan_for ?k_plan_for ?a_Lwhole ?l_Lwhole ?c_Lwhole ?k_Lwhole ?a_Lis_row ?l_Lis_row ?c_Lis_row ?k_Lis_row ?a_Lput ?l_Lput ?c_Lput ?k_Lput ?a_Lplan_error ?l_Lplan_error ?c_Lplan_error ?k_Lplan_error ?a_Lplan_boxes ?l_Lplan_boxes ?c_Lplan_boxes ?k_Lplan_boxes ?a_Lplan_bricks ?l_Lplan_bricks ?c_Lplan_bricks ?k_Lplan_bricks ?a_Lright ?l_Lright ?c_Lright ?k_Lright ?a_law ?l_law ?c_law ?k_law ?z_abs ?z_len ?z_int ?z_range ?z_tuple ?z_list ?z_max ?z_zip ?z_enumerate ?z_any ?z_isinstance ?z_bool ?z_repr ?z_min ?v_GAP ?v_STEP ?v_SIDES ?v_CUT
    (case ac_Builder => k_is); (case ob_Builder => (refine' DL.objK_mk ?oBuilder_at ?oBuilder_k1 ?oBuilder_k2 ?oBuilder_k3 ?oBuilder_k4 ?oBuilder_k5 ?oBuilder_k6 ?oBuilder_pg ?oBuilder_hd ?oBuilder_po ?oBuilder_sa ?oBuilder_ha ?oBuilder_hn ?oBuilder_tk ?oBuilder_mr; (case oBuilder_at => k_is); (case oBuilder_k1 => first | rfl | kernel_rfl); (case oBuilder_k2 => first | rfl | kernel_rfl); (case oBuilder_k3 => first | rfl | kernel_rfl); (case oBuilder_k4 => first | rfl | kernel_rfl); (case oBuilder_k5 => first | rfl | kernel_rfl); (case oBuilder_k6 => first | rfl | kernel_rfl); (case oBuilder_pg => k_is); (case oBuilder_hd => k_is); (case oBuilder_po => k_is); (case oBuilder_sa => k_is); (case oBuilder_ha => k_is); (case oBuilder_hn => k_is); (case oBuilder_tk => k_is); (case oBuilder_mr => k_is))); (case mm_Builder => k_is); (case mp_Builder => k_is); (case na_Builder_rows => first | rfl | kernel_rfl); (case a_Ldeck => k_is); (case l_Ldeck => k_is); (case c_Ldeck => k_is); (case k_Ldeck => k_is); (case a_Ldraw => k_is); (case l_Ldraw => k_is); (case c_Ldraw => k_is); (case k_Ldraw => k_is); (case a_Lone => k_is); (case l_Lone => k_is); (case c_Lone => k_is); (case k_Lone => k_is); (case a_Lsides => k_is); (case l_Lsides => k_is); (case c_Lsides => k_is); (case k_Lsides => k_is); (case a_Lpair => k_is); (case l_Lpair => k_is); (case c_Lpair => k_is); (case k_Lpair => k_is); (case a_Lvolume => k_is); (case l_Lvolume => k_is); (case c_Lvolume => k_is); (case k_Lvolume => k_is); (case a_Ldivisor => k_is); (case l_Ldivisor => k_is); (case c_Ldivisor => k_is); (case k_Ldivisor => k_is); (case a_Llcm => k_is); (case l_Llcm => k_is); (case c_Llcm => k_is); (case k_Llcm => k_is); (case a_Lcut_box => k_is); (case l_Lcut_box => k_is); (case c_Lcut_box => k_is); (case k_Lcut_box => k_is); (case a_Lplain_box => k_is); (case l_Lplain_box => k_is); (case c_Lplain_box => k_is); (case k_Lplain_box => k_is); (case a_Lbox => k_is); (case l_Lbox => k_is); (case c_Lbox => k_is); (case k_Lbox => k_is); (case a_Lrests => k_is); (case l_Lrests => k_is); (case c_Lrests => k_is); (case k_Lrests => k_is); (case a_Lfar_sum => k_is); (case l_Lfar_sum => k_is); (case c_Lfar_sum => k_is); (case k_Lfar_sum => k_is); (case a_Lfar_filled => k_is); (case l_Lfar_filled => k_is); (case c_Lfar_filled => k_is); (case k_Lfar_filled => k_is); (case a_Lfar_box => k_is); (case l_Lfar_box => k_is); (case c_Lfar_box => k_is); (case k_Lfar_box => k_is); (case a_common => k_is); (case l_common => k_is); (case c_common => k_is); (case k_common => k_is); (case a_inverse => k_is); (case l_inverse => k_is); (case c_inverse => k_is); (case k_inverse => k_is); (case a_least_times => k_is); (case l_least_times => k_is); (case c_least_times => k_is); (case k_least_times => k_is); (case a_rests => k_is); (case l_rests => k_is); (case c_rests => k_is); (case k_rests => k_is); (case a_bar_along => k_is); (case l_bar_along => k_is); (case c_bar_along => k_is); (case k_bar_along => k_is); (case a_crossing => k_is); (case l_crossing => k_is); (case c_crossing => k_is); (case k_crossing => k_is); (case a_paper => k_is); (case l_paper => k_is); (case c_paper => k_is); (case k_paper => k_is); (case a_is_filled => k_is); (case l_is_filled => k_is); (case c_is_filled => k_is); (case k_is_filled => k_is); (case a_with_side => k_is); (case l_with_side => k_is); (case c_with_side => k_is); (case k_with_side => k_is); (case a_Builder_init => first | rfl | kernel_rfl); (case i_Builder_init => first | rfl | kernel_rfl); (case l_Builder_init => k_is); (case c_Builder_init => k_is); (case k_Builder_init => k_is); (case a_Builder_add => first | rfl | kernel_rfl); (case i_Builder_add => first | rfl | kernel_rfl); (case l_Builder_add => k_is); (case c_Builder_add => k_is); (case k_Builder_add => k_is); (case a_Builder_repeated => first | rfl | kernel_rfl); (case i_Builder_repeated => first | rfl | kernel_rfl); (case l_Builder_repeated => k_is); (case c_Builder_repeated => k_is); (case k_Builder_repeated => k_is); (case a_Builder_block => first | rfl | kernel_rfl); (case i_Builder_block => first | rfl | kernel_rfl); (case l_Builder_block => k_is); (case c_Builder_block => k_is); (case k_Builder_block => k_is); (case a_counts_in => k_is); (case l_counts_in => k_is); (case c_counts_in => k_is); (case k_counts_in => k_is); (case a_plan_for => k_is); (case l_plan_for => k_is); (case c_plan_for => k_is); (case k_plan_for => k_is); (case a_Lwhole => k_is); (case l_Lwhole => k_is); (case c_Lwhole => k_is); (case k_Lwhole => k_is); (case a_Lis_row => k_is); (case l_Lis_row => k_is); (case c_Lis_row => k_is); (case k_Lis_row => k_is); (case a_Lput => k_is); (case l_Lput => k_is); (case c_Lput => k_is); (case k_Lput => k_is); (case a_Lplan_error => k_is); (case l_Lplan_error => k_is); (case c_Lplan_error => k_is); (case k_Lplan_error => k_is); (case a_Lplan_boxes => k_is); (case l_Lplan_boxes => k_is); (case c_Lplan_boxes => k_is); (case k_Lplan_boxes => k_is); (case a_Lplan_bricks => k_is); (case l_Lplan_bricks => k_is); (case c_Lplan_bricks => k_is); (case k_Lplan_bricks => k_is); (case a_Lright => k_is); (case l_Lright => k_is); (case c_Lright => k_is); (case k_Lright => k_is); (case a_law => k_is); (case l_law => k_is); (case c_law => k_is); (case k_law => k_is); (case z_abs => k_is); (case z_len => k_is); (case z_int => k_is); (case z_range => k_is); (case z_tuple => k_is); (case z_list => k_is); (case z_max => k_is); (case z_zip => k_is); (case z_enumerate => k_is); (case z_any => k_is); (case z_isinstance => k_is); (case z_bool => k_is); (case z_repr => k_is); (case z_min => k_is); (case v_GAP => k_is); (case v_STEP => k_is); (case v_SIDES => k_is); (case v_CUT => k_is)

