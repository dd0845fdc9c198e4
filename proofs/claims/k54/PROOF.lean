import PyProof.Rows.All
import Wide.All
import OpenK.AllK
import Wide.FinOn
import HandS.ForSpec
import HandS.ForMost
import HandS.IsInst
import HandS.Deep
import HandS.Wide
import HandS.TupAny
import HandS.Zip
import HandS.Style
import HandS.Words
import HandS.Lambda
import HandS.RaiseMore
import HandS.SortInts
import HandS.Walk
import KE.GoesMore
import KE.GoesEnum
import HandS.TupMul
import PyProof.ReprRoads
import PyProof.Rows.IntBool
import KE.SortData
import KE.DataMinMax
import HandS.Conv
import PyProof.Rows.MatchSeqLen
import PyProof.RulesMatchSeq
import HandS.Dict
import KE.LtData
import KE.DataCmp
import PyProof.FactsAll.dict
import PyProof.NeData
import HandS.TryOnly
import PyProof.StrOps2
import PyProof.StrLawsRepr
import HandS.Star
import PyProof.AssignAttr
import HandS.Nested
import HandS.EndTab
import PySem.Challenge.RW_twobricks_k54_sides_numbered
set_option Elab.async false
set_option linter.all false
set_option maxRecDepth 100000
set_option maxHeartbeats 4000000
namespace DL
open PySem PySem.Spec PyProof.Rows L2

/-- the tables of code objects that lambdas are kept in: (table, the lambda's name) -/
class Tb where
  T : List (Addr × Str)
instance (priority := low) tb0 : Tb := ⟨[]⟩
/-- a number that repr does not show: it marks what stands for an object -/
def markI : Int := 2 ^ 2000
/-- an object of the class n with these attributes, as data that no other value stands for -/
abbrev objD (n : Str) (fs : List (Str × PyData)) : PyData := .dict ((.int markI, .str n) :: fs.map fun p => (.str p.1, p.2))
/-- the class named n is at C, and is none of the built-in ones -/
structure ObjK (K : PySem.W.Frag) (n : Str) (C : Addr) : Prop where
  at_ : PySem.W.nsIn K mainGlobals n = some (some (.ref C))
  ty : ∀ T ∈ ["int", "bool", "str", "tuple", "list", "dict"], PySem.W.kitOne K (.ref C) (.type T) = some false
  cl : Cls K C
  ha : PySem.W.findIn K (.ref C) "__class__" = some (some (.builtin "object.__class__"))
  hn : PySem.W.specialIn K (.builtin "object.__class__") "__get__" = some (some (.builtin "getset_descriptor.__get__"))
  tk : PySem.W.takesIn K (.builtin "object.__class__") = some true
  mr : PySem.W.mroIn K C (.type "object") = some true
mutual
inductive Dn (K : PySem.W.Frag) (G : Hp) : V → PyData → Prop
  | non : Dn K G .non .none
  | bl (b : Bool) : Dn K G (.bl b) (.bool b)
  | int (i : Int) : Dn K G (.int i) (.int i)
  | str (x : Str) : Dn K G (.str x) (.str x)
  | lst {a : Addr} {xs : List V} {ds : List PyData} (h : G a = some (.lst xs)) (t : DnL K G xs ds) : Dn K G (.ref a) (.list ds)
  | tup {a : Addr} {xs : List V} {ds : List PyData} (h : G a = some (.tup xs)) (t : DnL K G xs ds) : Dn K G (.ref a) (.tuple ds)
  | dic {a : Addr} (h : G a = some (.dK [])) (n : a ≠ sysModules) : Dn K G (.ref a) (.dict [])
  | ob {a C dx : Addr} {n : Str} {ws : List (Str × V)} {fs : List (Str × PyData)} (h : G a = some (.ins C dx ws)) (k : ObjK K n C) (e : ws.map (·.1) = fs.map (·.1)) (t : DnL K G (ws.map (·.2)) (fs.map (·.2))) : Dn K G (.ref a) (.dict ((.int markI, .str n) :: fs.map fun p => (.str p.1, p.2)))
inductive DnL (K : PySem.W.Frag) (G : Hp) : List V → List PyData → Prop
  | nil : DnL K G [] []
  | cons {v : V} {vs : List V} {d : PyData} {ds : List PyData} (h : Dn K G v d) (t : DnL K G vs ds) : DnL K G (v :: vs) (d :: ds)
end
theorem sqT_mono {K : PySem.W.Frag} {G H : Hp} {a : Addr} {xs : List V} (s : Same G H) (h : SqT K G a xs) : SqT K H a xs := by
  rcases h with (h | ⟨o, h⟩) | h
  · exact .inl (.inl (s _ _ h))
  · exact .inl (.inr ⟨o, s _ _ h⟩)
  · exact .inr h
mutual
theorem Dn.mono' {K : PySem.W.Frag} {G H : Hp} (s : Same G H) : ∀ {v : V} {d : PyData}, Dn K G v d → Dn K H v d
  | _, _, .non => .non
  | _, _, .bl b => .bl b
  | _, _, .int i => .int i
  | _, _, .str x => .str x
  | _, _, .lst h t => .lst (s _ _ h) (DnL.mono' s t)
  | _, _, .tup h t => .tup (s _ _ h) (DnL.mono' s t)
  | _, _, .dic h n => .dic (s _ _ h) n
  | _, _, .ob h k e t => .ob (s _ _ h) k e (DnL.mono' s t)
theorem DnL.mono' {K : PySem.W.Frag} {G H : Hp} (s : Same G H) : ∀ {vs : List V} {ds : List PyData}, DnL K G vs ds → DnL K H vs ds
  | _, _, .nil => .nil
  | _, _, .cons a b => .cons (Dn.mono' s a) (DnL.mono' s b)
end
theorem Dn.mono {K : PySem.W.Frag} {G H : Hp} (s : Same G H) {v : V} (d : PyData) (h : Dn K G v d) : Dn K H v d := Dn.mono' s h
theorem DnL.mono {K : PySem.W.Frag} {G H : Hp} (s : Same G H) {vs : List V} (ds : List PyData) (h : DnL K G vs ds) : DnL K H vs ds := DnL.mono' s h
section
variable {K : PySem.W.Frag} {G : Hp}
theorem DnL.len : ∀ {vs : List V} {ds : List PyData}, DnL K G vs ds → vs.length = ds.length
  | _, [], h => by cases h; rfl
  | _, d :: ds, h => by cases h with | cons a b => simp [DnL.len b]
theorem DnL.get : ∀ {vs : List V} {ds : List PyData} {i : Nat} {d : PyData}, DnL K G vs ds → ds[i]? = some d → ∃ v, vs[i]? = some v ∧ Dn K G v d
  | _, [], _, _, h, e => by simp at e
  | _, d :: ds, 0, _, h, e => by
    cases h with
    | cons a b => simp at e; subst e; exact ⟨_, rfl, a⟩
  | _, d :: ds, i + 1, x, h, e => by
    cases h with
    | cons a b =>
      obtain ⟨v, h1, h2⟩ := DnL.get (i := i) b (by simpa using e)
      exact ⟨v, by simpa using h1, h2⟩
theorem DnL.app : ∀ {vs ws : List V} {ds es : List PyData}, DnL K G vs ds → DnL K G ws es → DnL K G (vs ++ ws) (ds ++ es)
  | _, _, [], _, h, h2 => by cases h; exact h2
  | _, _, d :: ds, _, h, h2 => by cases h with | cons a b => exact .cons a (DnL.app b h2)
theorem DnL.take : ∀ {vs : List V} {ds : List PyData} (n : Nat), DnL K G vs ds → DnL K G (vs.take n) (ds.take n)
  | _, _, 0, _ => by simp; exact .nil
  | _, [], n + 1, h => by cases h; simp; exact .nil
  | _, d :: ds, n + 1, h => by cases h with | cons a b => exact .cons a (DnL.take n b)
theorem DnL.drop : ∀ {vs : List V} {ds : List PyData} (n : Nat), DnL K G vs ds → DnL K G (vs.drop n) (ds.drop n)
  | _, _, 0, h => by simpa using h
  | _, [], n + 1, h => by cases h; simp; exact .nil
  | _, d :: ds, n + 1, h => by cases h with | cons a b => exact DnL.drop n b
theorem DnL.set {v : V} {d : PyData} (h : Dn K G v d) : ∀ {vs : List V} {ds : List PyData} (i : Nat), DnL K G vs ds → DnL K G (vs.set i v) (ds.set i d)
  | _, [], _, t => by cases t; exact .nil
  | _, _ :: _, 0, t => by cases t with | cons a b => exact .cons h b
  | _, _ :: _, i + 1, t => by cases t with | cons a b => exact .cons a (DnL.set h i b)
theorem DnL.dropLast {vs : List V} {ds : List PyData} (h : DnL K G vs ds) : DnL K G vs.dropLast ds.dropLast := by
  rw [List.dropLast_eq_take, List.dropLast_eq_take, h.len]
  exact h.take _
theorem DnL.ints : ∀ (ns : List Int), DnL K G (ns.map V.int) (ns.map PyData.int)
  | [] => .nil
  | n :: ns => .cons (.int n) (DnL.ints ns)
theorem DnL.toInts : ∀ {vs : List V} {ns : List Int}, DnL K G vs (ns.map PyData.int) → vs = ns.map V.int
  | _, [], h => by cases h; rfl
  | _, n :: ns, h => by
    cases h with
    | cons a b => cases a; rw [DnL.toInts b]; rfl
end

/-- what a slot holds: nothing; data that never changes any more; a list of one's own (its address, its items); the deck -/
inductive Cell where
  | em
  | d (x : PyData)
  | ol (a : Addr) (xs : List PyData)
  | dk (a b c : Addr)
  | scr (a : Addr) (ns : List Int)
  | dx (a b c : Addr) (xs : List Int) (n : Int) (ys : List Int)
  | od (a : Addr) (kvs : List (List Int × PyData))
  | xc (a : Addr) (cls : Value) (d : Option Addr) (x : PyData)
  | ob (a : Addr) (n : Str) (fs : List (Str × PyData))
  | fv (a : Addr) (m : Hp)
def Cell.fp : Cell → List Addr
  | .ol a _ => [a]
  | .dk a b c => [a, b, c]
  | .dx a b c _ _ _ => [a, b, c]
  | .od a _ => [a]
  | .ob a _ _ => [a]
  | _ => []
/-- a dict whose keys are tuples of integers -/
def keyI (k : List Int) : List Key := k.map fun i => (Sum.inl i : Key)
def DnK (K : PySem.W.Frag) (G : Hp) (ws : List (List Key × V)) (kvs : List (List Int × PyData)) : Prop := ws.map (·.1) = kvs.map (fun p => keyI p.1) ∧ DnL K G (ws.map (·.2)) (kvs.map (·.2))
/-- the deck: the great numbers that are left, all numbers, the count -/
def DeckOk (H : Hp) (a b c : Addr) : Prop := a ≠ b ∧ a ≠ c ∧ b ≠ c ∧ ∃ (n : Int) (xs ys : List Int), H a = some (.lst [.ref b, .ref c, .int n]) ∧ H b = some (.lst (xs.map V.int)) ∧ H c = some (.lst (ys.map V.int)) ∧ ys ≠ [] ∧ ∀ x ∈ xs, 0 ≤ x
def excD (n : Str) (fs : List (Str × PyData)) : PyData := .dict [(.str n, .dict (fs.map fun p => (.str p.1, p.2)))]
/-- an exception's class and dict stand for it -/
def ExcAt (K : PySem.W.Frag) (G : Hp) (cls : Value) (d : Option Addr) (x : PyData) : Prop := ∃ (n : Str) (C : Addr) (fs : List (Str × PyData)), x = excD n fs ∧ cls = .ref C ∧ (PySem.W.clsIn K C).map (·.name) = some n ∧
  ((∃ (dd : Addr) (ws : List (Str × V)), d = some dd ∧ G dd = some (.xd ws) ∧ ws.map (·.1) = fs.map (·.1) ∧ DnL K G (ws.map (·.2)) (fs.map (·.2))) ∨ (fs = [] ∧ d = none))
theorem ExcAt.mono {K : PySem.W.Frag} {G G' : Hp} {cls : Value} {d : Option Addr} {x : PyData} (s : Same G G') (h : ExcAt K G cls d x) : ExcAt K G' cls d x := by
  obtain ⟨n, C, fs, h1, h2, h3, h4⟩ := h
  refine ⟨n, C, fs, h1, h2, h3, ?_⟩
  rcases h4 with ⟨dd, ws, q1, q2, q3, q4⟩ | q
  · exact .inl ⟨dd, ws, q1, s _ _ q2, q3, q4.mono s⟩
  · exact .inr q
def CellOk (K : PySem.W.Frag) (G H : Hp) : Cell → Option V → Prop
  | .em, _ => True
  | .d x, o => ∃ v, o = some v ∧ Dn K G v x
  | .ol a xs, o => o = some (.ref a) ∧ ∃ vs, H a = some (.lst vs) ∧ DnL K G vs xs
  | .dk a b c, o => o = some (.ref a) ∧ DeckOk H a b c
  | .scr a ns, o => o = some (.ref a) ∧ SqL K G a (ns.map V.int)
  | .od a kvs, o => o = some (.ref a) ∧ ∃ ws, H a = some (.dT ws) ∧ DnK K G ws kvs
  | .xc a cls d x, o => o = some (.ref a) ∧ ExcAt K G cls d x
  | .ob a n fs, o => o = some (.ref a) ∧ ∃ C dx ws, H a = some (.ins C dx ws) ∧ ObjK K n C ∧ ws.map (·.1) = fs.map (·.1) ∧ DnL K G (ws.map (·.2)) (fs.map (·.2))
  | .fv a m, o => o = some (.ref a) ∧ Same m G
  | .dx a b c xs n ys, o => o = some (.ref a) ∧ a ≠ b ∧ a ≠ c ∧ b ≠ c ∧ H a = some (.lst [.ref b, .ref c, .int n]) ∧ H b = some (.lst (xs.map V.int)) ∧ H c = some (.lst (ys.map V.int))

abbrev DS := List Cell
/-- what is neither a table nor a code object -/
def notTE (x : HO) : Prop := (∀ ps, x ≠ .tbl ps) ∧ ∀ f, x ≠ .ext f
theorem notTE_lst {xs : List V} : notTE (.lst xs) := ⟨fun _ z => (nomatch z), fun _ z => (nomatch z)⟩
theorem tabs_upd {T : List (Addr × Str)} {H : Hp} {p : Addr} {o : HO} (h : LamX.Tabs T H) (hp : ∀ x, H p = some x → notTE x) : LamX.Tabs T (upd H p o) := fun q hq => by
  obtain ⟨ps, h1, h2, h3⟩ := h q hq
  refine ⟨ps, ?_, h2, fun pos cv hc => ?_⟩
  · rw [upd_ne (fun z => (hp _ (by rw [← z]; exact h1)).1 ps rfl)]; exact h1
  · obtain ⟨c, e1, e2⟩ := h3 pos cv hc
    exact ⟨c, e1, by rw [upd_ne (fun z => (hp _ (by rw [← z]; exact e2)).2 _ rfl)]; exact e2⟩
theorem tabs_new {T : List (Addr × Str)} {H : Hp} {p : Addr} {o : HO} (h : LamX.Tabs T H) (hp : H p = none) : LamX.Tabs T (upd H p o) := tabs_upd h fun x e => by rw [hp] at e; cases e
/-- what is kept for others is no table and no code object, what never changes is no table -/
structure NT (B G : Hp) : Prop where
  b : ∀ a o, B a = some o → notTE o
  g : ∀ a o, G a = some o → ∀ ps, o ≠ .tbl ps
variable [Tb]
structure TbOk (B G H : Hp) : Prop where
  t : LamX.Tabs Tb.T H
  n : NT B G
structure Rel (K : PySem.W.Frag) (B G : Hp) (δ : DS) (σ : L2.St) (H : Hp) : Prop where
  len : σ.length = δ.length
  sg : Same G H
  sb : Same B H
  dj : ∀ a, G a = none ∨ B a = none
  ok : ∀ (i : Nat) (c : Cell) (o : Option V), δ[i]? = some c → σ[i]? = some o → CellOk K G H c o
  ap : ∀ (i j : Nat) (c c' : Cell) (a : Addr), δ[i]? = some c → δ[j]? = some c' → a ∈ c.fp → a ∈ c'.fp → i = j
  fr : ∀ (i : Nat) (c : Cell) (a : Addr), δ[i]? = some c → a ∈ c.fp → G a = none ∧ B a = none
  tt : TbOk B G H

omit [Tb] in
theorem NT.updG {B G : Hp} {p : Addr} {o : HO} (n : NT B G) (h : ∀ ps, o ≠ .tbl ps) : NT B (upd G p o) := ⟨n.b, fun a x e => by
  by_cases q : a = p
  · subst q; rw [upd_same] at e; cases e; exact h
  · rw [upd_ne q] at e; exact n.g a x e⟩
omit [Tb] in
theorem NT.updB {B G : Hp} {p : Addr} {o : HO} (n : NT B G) (h : notTE o) : NT (upd B p o) G := ⟨fun a x e => by
  by_cases q : a = p
  · subst q; rw [upd_same] at e; cases e; exact h
  · rw [upd_ne q] at e; exact n.b a x e, n.g⟩
omit [Tb] in
theorem NT.lessB {B B0 G : Hp} (n : NT B G) (h : ∀ a o, B0 a = some o → B a = some o) : NT B0 G := ⟨fun a x e => n.b a x (h a x e), n.g⟩
section
variable {K : PySem.W.Frag} {B G G' H H' : Hp} {δ : DS} {σ : L2.St} {p a : Addr} {o : HO} {i : Nat} {c : Cell}
theorem same_new (h : H p = none) : Same H (upd H p o) := fun b x e => by
  rw [upd_ne (ne_of_none e h)]; exact e
theorem Rel.at (R : Rel K B G δ σ H) (h : δ[i]? = some c) : ∃ o, σ[i]? = some o ∧ CellOk K G H c o := by
  have hi : i < δ.length := (List.getElem?_eq_some_iff.mp h).1
  have hs : i < σ.length := by rw [R.len]; exact hi
  exact ⟨σ[i], List.getElem?_eq_getElem hs, R.ok i c _ h (List.getElem?_eq_getElem hs)⟩
theorem cell_tracked (ok : CellOk K G H c (some (.ref a))) (hc : p ∈ c.fp) : ∃ o, H p = some o := by
  cases c with
  | em => cases hc
  | d x => cases hc
  | ol a xs =>
    obtain ⟨_, vs, e, _⟩ := ok
    rw [List.mem_singleton.mp hc]; exact ⟨_, e⟩
  | dk a b c =>
    obtain ⟨_, _, _, _, n, xs, ys, e1, e2, e3, _⟩ := ok
    simp only [Cell.fp, List.mem_cons, List.not_mem_nil, or_false] at hc
    rcases hc with rfl | rfl | rfl
    · exact ⟨_, e1⟩
    · exact ⟨_, e2⟩
    · exact ⟨_, e3⟩
  | scr a ns => cases hc
  | xc a cls d x => cases hc
  | fv a m => cases hc
  | ob a n fs =>
    obtain ⟨_, C, dx, ws, e, _⟩ := ok
    rw [List.mem_singleton.mp hc]; exact ⟨_, e⟩
  | od a kvs =>
    obtain ⟨_, ws, e, _⟩ := ok
    rw [List.mem_singleton.mp hc]; exact ⟨_, e⟩
  | dx a b c xs n ys =>
    obtain ⟨_, _, _, _, e1, e2, e3⟩ := ok
    simp only [Cell.fp, List.mem_cons, List.not_mem_nil, or_false] at hc
    rcases hc with rfl | rfl | rfl
    · exact ⟨_, e1⟩
    · exact ⟨_, e2⟩
    · exact ⟨_, e3⟩
theorem cell_tr {o : Option V} (ok : CellOk K G H c o) (hc : p ∈ c.fp) : ∃ o, H p = some o := by
  cases c with
  | em => cases hc
  | d x => cases hc
  | ol a xs => exact cell_tracked (a := a) (by obtain ⟨e, r⟩ := ok; exact ⟨rfl, r⟩) hc
  | dk a b c => exact cell_tracked (K := K) (G := G) (a := a) (by obtain ⟨e, r⟩ := ok; exact ⟨rfl, r⟩) hc
  | scr a ns => cases hc
  | xc a cls d x => cases hc
  | fv a m => cases hc
  | ob a n fs => exact cell_tracked (K := K) (G := G) (a := a) (by obtain ⟨e, r⟩ := ok; exact ⟨rfl, r⟩) hc
  | od a kvs => exact cell_tracked (K := K) (G := G) (a := a) (by obtain ⟨e, r⟩ := ok; exact ⟨rfl, r⟩) hc
  | dx a b c xs n ys => exact cell_tracked (K := K) (G := G) (a := a) (by obtain ⟨e, r⟩ := ok; exact ⟨rfl, r⟩) hc
theorem notTE_dT {ws : List (List Key × V)} : notTE (.dT ws) := ⟨fun _ z => (nomatch z), fun _ z => (nomatch z)⟩
theorem notTE_ins {C dx : Addr} {ws : List (Str × V)} : notTE (.ins C dx ws) := ⟨fun _ z => (nomatch z), fun _ z => (nomatch z)⟩
theorem cell_te {c : Cell} {p : Addr} {o : Option V} (ok : CellOk K G H c o) (hc : p ∈ c.fp) : ∀ x, H p = some x → notTE x := by
  have one : ∀ {y : HO}, H p = some y → notTE y → ∀ x, H p = some x → notTE x := fun {y} e h x e2 => by
    rw [e] at e2
    cases e2
    exact h
  cases c with
  | em => cases hc
  | d x => cases hc
  | ol a xs =>
    obtain ⟨_, vs, e, _⟩ := ok
    rw [List.mem_singleton.mp hc] at one ⊢
    exact one e notTE_lst
  | dk a b c =>
    obtain ⟨_, _, _, _, n, xs, ys, e1, e2, e3, _⟩ := ok
    simp only [Cell.fp, List.mem_cons, List.not_mem_nil, or_false] at hc
    rcases hc with rfl | rfl | rfl
    · exact one e1 notTE_lst
    · exact one e2 notTE_lst
    · exact one e3 notTE_lst
  | scr a ns => cases hc
  | xc a cls d x => cases hc
  | fv a m => cases hc
  | ob a n fs =>
    obtain ⟨_, C, dx, ws, e, _⟩ := ok
    rw [List.mem_singleton.mp hc] at one ⊢
    exact one e notTE_ins
  | od a kvs =>
    obtain ⟨_, ws, e, _⟩ := ok
    rw [List.mem_singleton.mp hc] at one ⊢
    exact one e notTE_dT
  | dx a b c xs n ys =>
    obtain ⟨_, _, _, _, e1, e2, e3⟩ := ok
    simp only [Cell.fp, List.mem_cons, List.not_mem_nil, or_false] at hc
    rcases hc with rfl | rfl | rfl
    · exact one e1 notTE_lst
    · exact one e2 notTE_lst
    · exact one e3 notTE_lst
/-- a cell's content goes along with a change that spares its own objects -/
theorem CellOk.stay {o : Option V} (ok : CellOk K G H c o) (sg : Same G G') (hk : ∀ b ∈ c.fp, H' b = H b) : CellOk K G' H' c o := by
  cases c with
  | em => trivial
  | d x => obtain ⟨v, e, h⟩ := ok; exact ⟨v, e, h.mono sg⟩
  | ol a xs =>
    obtain ⟨e, vs, h, t⟩ := ok
    exact ⟨e, vs, by rw [hk a (by simp [Cell.fp])]; exact h, t.mono sg⟩
  | dk a b c =>
    obtain ⟨e, h1, h2, h3, n, xs, ys, e1, e2, e3, r⟩ := ok
    exact ⟨e, h1, h2, h3, n, xs, ys, by rw [hk a (by simp [Cell.fp])]; exact e1, by rw [hk b (by simp [Cell.fp])]; exact e2, by rw [hk c (by simp [Cell.fp])]; exact e3, r⟩
  | scr a ns => exact ⟨ok.1, sg.seq ok.2⟩
  | fv a m => exact ⟨ok.1, ok.2.trans sg⟩
  | xc a cls d x => exact ⟨ok.1, ok.2.mono sg⟩
  | ob a n fs =>
    obtain ⟨e, C, dx, ws, h, k, e2, t⟩ := ok
    exact ⟨e, C, dx, ws, by rw [hk a (by simp [Cell.fp])]; exact h, k, e2, t.mono sg⟩
  | od a kvs =>
    obtain ⟨e, ws, h, t1, t2⟩ := ok
    exact ⟨e, ws, by rw [hk a (by simp [Cell.fp])]; exact h, t1, t2.mono sg⟩
  | dx a b c xs n ys =>
    obtain ⟨e, h1, h2, h3, e1, e2, e3⟩ := ok
    exact ⟨e, h1, h2, h3, by rw [hk a (by simp [Cell.fp])]; exact e1, by rw [hk b (by simp [Cell.fp])]; exact e2, by rw [hk c (by simp [Cell.fp])]; exact e3⟩
theorem Rel.tr (R : Rel K B G δ σ H) (h : δ[i]? = some c) (hc : p ∈ c.fp) : ∃ o, H p = some o := by
  obtain ⟨o, _, ok⟩ := R.at h
  exact cell_tr ok hc
theorem Rel.freeG (R : Rel K B G δ σ H) (h : H p = none) : G p = none := R.sg.free h
theorem Rel.freeB (R : Rel K B G δ σ H) (h : H p = none) : B p = none := R.sb.free h
/-- a new object, laid to what never changes -/
theorem Rel.laid (R : Rel K B G δ σ H) (h : H p = none) (nt : ∀ ps, o ≠ .tbl ps := by exact fun _ z => (nomatch z)) : Rel K B (upd G p o) δ σ (upd H p o) ∧ Same G (upd G p o) := by
  have sG : Same G (upd G p o) := same_new (R.freeG h)
  refine ⟨⟨R.len, fun b x e => ?_, R.sb.trans (same_new h), fun b => ?_, fun i c w e1 e2 => ?_, R.ap, fun i c b e hb => ?_, ⟨tabs_new R.tt.t h, R.tt.n.updG nt⟩⟩, sG⟩
  · by_cases hb : b = p
    · subst hb; rw [upd_same] at e ⊢; exact e
    · rw [upd_ne hb] at e ⊢; exact R.sg _ _ e
  · by_cases hb : b = p
    · subst hb; exact .inr (R.freeB h)
    · rw [upd_ne hb]; exact R.dj b
  · refine (R.ok i c w e1 e2).stay sG fun b hb => ?_
    obtain ⟨x, ex⟩ := R.tr e1 hb
    exact upd_ne (ne_of_none ex h)
  · obtain ⟨x, ex⟩ := R.tr e hb
    obtain ⟨f1, f2⟩ := R.fr i c b e hb
    exact ⟨by rw [upd_ne (ne_of_none ex h)]; exact f1, f2⟩
/-- a new object that isn't looked at yet -/
theorem Rel.grow (R : Rel K B G δ σ H) (h : H p = none) : Rel K B G δ σ (upd H p o) := by
  refine ⟨R.len, R.sg.trans (same_new h), R.sb.trans (same_new h), R.dj, fun i c w e1 e2 => ?_, R.ap, R.fr, ⟨tabs_new R.tt.t h, R.tt.n⟩⟩
  refine (R.ok i c w e1 e2).stay (Same.refl _) fun b hb => ?_
  obtain ⟨x, ex⟩ := R.tr e1 hb
  exact upd_ne (ne_of_none ex h)
/-- .. it is set among what is kept for others -/
theorem Rel.growB (R : Rel K B G δ σ H) (h : H p = none) (nt : notTE o := by exact ⟨fun _ z => (nomatch z), fun _ z => (nomatch z)⟩) : Rel K (upd B p o) G δ σ (upd H p o) := by
  refine ⟨R.len, R.sg.trans (same_new h), fun b x e => ?_, fun b => ?_, fun i c w e1 e2 => ?_, R.ap, fun i c b e hb => ?_, ⟨tabs_new R.tt.t h, R.tt.n.updB nt⟩⟩
  · by_cases hb : b = p
    · subst hb; rw [upd_same] at e ⊢; exact e
    · rw [upd_ne hb] at e ⊢; exact R.sb _ _ e
  · by_cases hb : b = p
    · subst hb; exact .inl (R.freeG h)
    · rw [upd_ne hb]; exact R.dj b
  · refine (R.ok i c w e1 e2).stay (Same.refl _) fun b hb => ?_
    obtain ⟨x, ex⟩ := R.tr e1 hb
    exact upd_ne (ne_of_none ex h)
  · obtain ⟨x, ex⟩ := R.tr e hb
    obtain ⟨f1, f2⟩ := R.fr i c b e hb
    exact ⟨f1, by rw [upd_ne (ne_of_none ex h)]; exact f2⟩
/-- one of those kept for others is changed (by whom it belongs to) -/
theorem Rel.putB (R : Rel K B G δ σ H) {u : HO} (h : B p = some u) (hu : notTE u) (nt : notTE o := by exact ⟨fun _ z => (nomatch z), fun _ z => (nomatch z)⟩) : Rel K (upd B p o) G δ σ (upd H p o) := by
  have gp : G p = none := by
    rcases R.dj p with e | e
    · exact e
    · rw [h] at e; cases e
  refine ⟨R.len, fun b x e => ?_, fun b x e => ?_, fun b => ?_, fun i c w e1 e2 => ?_, R.ap, fun i c b e hb => ?_, ⟨tabs_upd R.tt.t fun x e => by rw [R.sb _ _ h] at e; cases e; exact hu, R.tt.n.updB nt⟩⟩
  · have hb : b ≠ p := fun z => by rw [z, gp] at e; cases e
    rw [upd_ne hb]; exact R.sg _ _ e
  · by_cases hb : b = p
    · subst hb; rw [upd_same] at e ⊢; exact e
    · rw [upd_ne hb] at e ⊢; exact R.sb _ _ e
  · by_cases hb : b = p
    · subst hb; exact .inl gp
    · rw [upd_ne hb]; exact R.dj b
  · refine (R.ok i c w e1 e2).stay (Same.refl _) fun b hb => upd_ne fun z => ?_
    have := (R.fr i c b e1 hb).2
    rw [z, h] at this; cases this
  · obtain ⟨f1, f2⟩ := R.fr i c b e hb
    refine ⟨f1, ?_⟩
    rw [upd_ne (fun z => by rw [z, h] at f2; cases f2)]; exact f2
/-- what was kept for others and hangs on nobody is now looked at: frozen -/
theorem Rel.takeB (R : Rel K B G δ σ H) {B0 : Hp} (h0 : B0 p = none) (hs : ∀ b, b ≠ p → B0 b = B b) {u : HO} (h : B p = some u) : Rel K B0 (upd G p u) δ σ H ∧ Same G (upd G p u) := by
  have gp : G p = none := by
    rcases R.dj p with e | e
    · exact e
    · rw [h] at e; cases e
  have sG : Same G (upd G p u) := same_new gp
  refine ⟨⟨R.len, fun b x e => ?_, fun b x e => ?_, fun b => ?_, fun i c w e1 e2 => (R.ok i c w e1 e2).stay sG fun _ _ => rfl, R.ap, fun i c b e hb => ?_, ⟨R.tt.t, (R.tt.n.lessB fun b o e => by
    have hb : b ≠ p := fun z => by rw [z, h0] at e; cases e
    rw [hs b hb] at e; exact e).updG (R.tt.n.b _ _ h).1⟩⟩, sG⟩
  · by_cases hb : b = p
    · subst hb; rw [upd_same] at e; cases e; exact R.sb _ _ h
    · rw [upd_ne hb] at e; exact R.sg _ _ e
  · have hb : b ≠ p := fun z => by rw [z, h0] at e; cases e
    rw [hs b hb] at e; exact R.sb _ _ e
  · by_cases hb : b = p
    · subst hb; exact .inr h0
    · rw [upd_ne hb, hs b hb]; exact R.dj b
  · obtain ⟨f1, f2⟩ := R.fr i c b e hb
    have hbp : b ≠ p := fun z => by rw [z, h] at f2; cases f2
    exact ⟨by rw [upd_ne hbp]; exact f1, by rw [hs b hbp]; exact f2⟩
/-- a slot is stored -/
theorem Rel.set {v : V} (R : Rel K B G δ σ H) (ok : CellOk K G H c (some v)) (hn : ∀ a ∈ c.fp, (G a = none ∧ B a = none) ∧ ∀ j c', j ≠ i → δ[j]? = some c' → a ∉ c'.fp) : Rel K B G (δ.set i c) (σ.set i (some v)) H := by
  have get : ∀ {j : Nat} {x : Cell}, (δ.set i c)[j]? = some x → (j = i ∧ x = c) ∨ (j ≠ i ∧ δ[j]? = some x) := fun {j x} e => by
    by_cases hj : j = i
    · subst hj
      rw [List.getElem?_set] at e
      simp only [if_true] at e
      split at e
      · cases e; exact .inl ⟨rfl, rfl⟩
      · cases e
    · rw [List.getElem?_set_ne (Ne.symm hj)] at e; exact .inr ⟨hj, e⟩
  refine ⟨by simp [R.len], R.sg, R.sb, R.dj, fun j x w e1 e2 => ?_, fun j k x y a e1 e2 m1 m2 => ?_, fun j x a e m => ?_, R.tt⟩
  · rcases get e1 with ⟨rfl, rfl⟩ | ⟨hj, e1⟩
    · rw [List.getElem?_set] at e2
      simp only [if_true] at e2
      split at e2
      · cases e2; exact ok
      · cases e2
    · rw [List.getElem?_set_ne (Ne.symm hj)] at e2
      exact R.ok j x w e1 e2
  · rcases get e1 with ⟨h1, h1'⟩ | ⟨h1, e3⟩
    · rcases get e2 with ⟨h2, h2'⟩ | ⟨h2, e4⟩
      · rw [h1, h2]
      · rw [h1'] at m1; exact absurd m2 ((hn a m1).2 k y h2 e4)
    · rcases get e2 with ⟨h2, h2'⟩ | ⟨h2, e4⟩
      · rw [h2'] at m2; exact absurd m1 ((hn a m2).2 j x h1 e3)
      · exact R.ap j k x y a e3 e4 m1 m2
  · rcases get e with ⟨_, rfl⟩ | ⟨_, e⟩
    · exact (hn a m).1
    · exact R.fr j x a e m
theorem Rel.setD {v : V} {x : PyData} (R : Rel K B G δ σ H) (h : Dn K G v x) : Rel K B G (δ.set i (.d x)) (σ.set i (some v)) H :=
  R.set ⟨v, rfl, h⟩ fun a m => by cases m
/-- a slot is forgotten -/
theorem Rel.clear (R : Rel K B G δ σ H) (o : Option V) : Rel K B G (δ.set i .em) (σ.set i o) H := by
  have get : ∀ {j : Nat} {x : Cell}, (δ.set i .em)[j]? = some x → x = .em ∨ (j ≠ i ∧ δ[j]? = some x) := fun {j x} e => by
    by_cases hj : j = i
    · subst hj
      rw [List.getElem?_set] at e
      simp only [if_true] at e
      split at e
      · cases e; exact .inl rfl
      · cases e
    · rw [List.getElem?_set_ne (Ne.symm hj)] at e; exact .inr ⟨hj, e⟩
  refine ⟨by simp [R.len], R.sg, R.sb, R.dj, fun j x w e1 e2 => ?_, fun j k x y a e1 e2 m1 m2 => ?_, fun j x a e m => ?_, R.tt⟩
  · rcases get e1 with rfl | ⟨hj, e1⟩
    · trivial
    · rw [List.getElem?_set_ne (Ne.symm hj)] at e2
      exact R.ok j x w e1 e2
  · rcases get e1 with rfl | ⟨h1, e1⟩
    · cases m1
    · rcases get e2 with rfl | ⟨h2, e2⟩
      · cases m2
      · exact R.ap j k x y a e1 e2 m1 m2
  · rcases get e with rfl | ⟨_, e⟩
    · cases m
    · exact R.fr j x a e m
/-- the cell at i is told otherwise (its value stays) -/
theorem Rel.recell {o : Option V} (R : Rel K B G δ σ H) (hσ : σ[i]? = some o) (ok : CellOk K G H c o) (hn : ∀ a ∈ c.fp, (G a = none ∧ B a = none) ∧ ∀ j c', j ≠ i → δ[j]? = some c' → a ∉ c'.fp) : Rel K B G (δ.set i c) σ H := by
  have hi : i < σ.length := (List.getElem?_eq_some_iff.mp hσ).1
  cases o with
  | some v =>
    have := R.set (i := i) (v := v) ok hn
    have e : σ.set i (some v) = σ := by
      apply List.ext_getElem?
      intro j
      by_cases hj : j = i
      · subst hj; rw [List.getElem?_set_self hi, hσ]
      · rw [List.getElem?_set_ne (Ne.symm hj)]
    rw [e] at this; exact this
  | none =>
    cases c with
    | em =>
      have := R.clear (i := i) none
      have e : σ.set i none = σ := by
        apply List.ext_getElem?
        intro j
        by_cases hj : j = i
        · subst hj; rw [List.getElem?_set_self hi, hσ]
        · rw [List.getElem?_set_ne (Ne.symm hj)]
      rw [e] at this; exact this
    | d x => obtain ⟨v, e, _⟩ := ok; cases e
    | ol a xs => obtain ⟨e, _⟩ := ok; cases e
    | dk a b c => obtain ⟨e, _⟩ := ok; cases e
    | scr a ns => obtain ⟨e, _⟩ := ok; cases e
    | xc a cls d x => obtain ⟨e, _⟩ := ok; cases e
    | ob a n fs => obtain ⟨e, _⟩ := ok; cases e
    | fv a m => obtain ⟨e, _⟩ := ok; cases e
    | od a kvs => obtain ⟨e, _⟩ := ok; cases e
    | dx a b c xs n ys => obtain ⟨e, _⟩ := ok; cases e
/-- a list of one's own is given away: it never changes any more -/
theorem Rel.freeze {xs : List PyData} (R : Rel K B G δ σ H) (h : δ[i]? = some (.ol a xs)) :
    ∃ vs, H a = some (.lst vs) ∧ DnL K G vs xs ∧ σ[i]? = some (some (.ref a)) ∧ Same G (upd G a (.lst vs)) ∧ Rel K B (upd G a (.lst vs)) (δ.set i (.d (.list xs))) σ H ∧ Dn K (upd G a (.lst vs)) (.ref a) (.list xs) := by
  obtain ⟨o, hσ, rfl, vs, e, t⟩ := R.at h
  obtain ⟨ga, ba⟩ := R.fr i _ a h (by simp [Cell.fp])
  have sG : Same G (upd G a (.lst vs)) := same_new ga
  have dn : Dn K (upd G a (.lst vs)) (.ref a) (.list xs) := .lst upd_same (t.mono sG)
  have hi : i < δ.length := (List.getElem?_eq_some_iff.mp h).1
  have get : ∀ {j : Nat} {x : Cell}, (δ.set i (.d (.list xs)))[j]? = some x → (j = i ∧ x = .d (.list xs)) ∨ (j ≠ i ∧ δ[j]? = some x) := fun {j x} e => by
    by_cases hj : j = i
    · subst hj
      rw [List.getElem?_set_self hi] at e; cases e; exact .inl ⟨rfl, rfl⟩
    · rw [List.getElem?_set_ne (Ne.symm hj)] at e; exact .inr ⟨hj, e⟩
  refine ⟨vs, e, t, hσ, sG, ⟨by simp [R.len], fun b x q => ?_, R.sb, fun b => ?_, fun j x w e1 e2 => ?_, fun j k x y z e1 e2 m1 m2 => ?_, fun j x z e1 m => ?_, ⟨R.tt.t, R.tt.n.updG fun _ z => (nomatch z)⟩⟩, dn⟩
  · by_cases hb : b = a
    · subst hb; rw [upd_same] at q; cases q; exact e
    · rw [upd_ne hb] at q; exact R.sg _ _ q
  · by_cases hb : b = a
    · subst hb; exact .inr ba
    · rw [upd_ne hb]; exact R.dj b
  · rcases get e1 with ⟨rfl, rfl⟩ | ⟨hj, e1⟩
    · rw [hσ] at e2; cases e2; exact ⟨_, rfl, dn⟩
    · exact (R.ok j x w e1 e2).stay sG fun _ _ => rfl
  · rcases get e1 with ⟨_, rfl⟩ | ⟨h1, e1⟩
    · cases m1
    · rcases get e2 with ⟨_, rfl⟩ | ⟨h2, e2⟩
      · cases m2
      · exact R.ap j k x y z e1 e2 m1 m2
  · rcases get e1 with ⟨_, rfl⟩ | ⟨hj, e1⟩
    · cases m
    · obtain ⟨f1, f2⟩ := R.fr j x z e1 m
      refine ⟨?_, f2⟩
      rw [upd_ne (fun q => ?_)]
      · exact f1
      · subst q
        exact hj (R.ap j i x _ z e1 h m (by simp [Cell.fp]))
/-- a list of one's own is changed -/
theorem Rel.write {xs ys : List PyData} {ws : List V} (R : Rel K B G δ σ H) (h : δ[i]? = some (.ol a xs)) (t' : DnL K G ws ys) : Rel K B G (δ.set i (.ol a ys)) σ (upd H a (.lst ws)) := by
  obtain ⟨o, hσ, rfl, vs, e, t⟩ := R.at h
  obtain ⟨ga, ba⟩ := R.fr i _ a h (by simp [Cell.fp])
  have hi : i < δ.length := (List.getElem?_eq_some_iff.mp h).1
  have get : ∀ {j : Nat} {x : Cell}, (δ.set i (.ol a ys))[j]? = some x → (j = i ∧ x = .ol a ys) ∨ (j ≠ i ∧ δ[j]? = some x) := fun {j x} e => by
    by_cases hj : j = i
    · subst hj
      rw [List.getElem?_set_self hi] at e; cases e; exact .inl ⟨rfl, rfl⟩
    · rw [List.getElem?_set_ne (Ne.symm hj)] at e; exact .inr ⟨hj, e⟩
  refine ⟨by simp [R.len], fun b x q => ?_, fun b x q => ?_, R.dj, fun j x w e1 e2 => ?_, fun j k x y z e1 e2 m1 m2 => ?_, fun j x z e1 m => ?_, ⟨tabs_upd R.tt.t fun x e' => by rw [e] at e'; cases e'; exact notTE_lst, R.tt.n⟩⟩
  · rw [upd_ne (fun z => by rw [z, ga] at q; cases q)]; exact R.sg _ _ q
  · rw [upd_ne (fun z => by rw [z, ba] at q; cases q)]; exact R.sb _ _ q
  · rcases get e1 with ⟨rfl, rfl⟩ | ⟨hj, e1⟩
    · rw [hσ] at e2; cases e2; exact ⟨rfl, ws, upd_same, t'⟩
    · refine (R.ok j x w e1 e2).stay (Same.refl _) fun b hb => upd_ne fun q => ?_
      rw [q] at hb
      exact hj (R.ap j i x _ a e1 h hb (by simp [Cell.fp]))
  · rcases get e1 with ⟨h1, rfl⟩ | ⟨h1, e1⟩
    · rcases get e2 with ⟨h2, rfl⟩ | ⟨h2, e2⟩
      · rw [h1, h2]
      · exact h1.trans (R.ap i k _ y z h e2 (by simpa [Cell.fp] using m1) m2)
    · rcases get e2 with ⟨h2, rfl⟩ | ⟨h2, e2⟩
      · exact (R.ap j i x _ z e1 h m1 (by simpa [Cell.fp] using m2)).trans h2.symm
      · exact R.ap j k x y z e1 e2 m1 m2
  · rcases get e1 with ⟨_, rfl⟩ | ⟨hj, e1⟩
    · have : z = a := by simpa [Cell.fp] using m
      subst this; exact ⟨ga, ba⟩
    · exact R.fr j x z e1 m
end
end DL
set_option Elab.async false
set_option linter.all false
set_option maxRecDepth 100000
set_option maxHeartbeats 4000000
namespace DL
open PySem PySem.Spec PyProof.Rows L2
variable [Tb]

inductive Opd where
  | d (x : PyData)
  | s (i : Nat)
def OpdOk (K : PySem.W.Frag) (G : Hp) (σ : L2.St) (v : V) : Opd → Prop
  | .d x => Dn K G v x
  | .s i => σ[i]? = some (some v)
inductive OpdsOk (K : PySem.W.Frag) (G : Hp) (σ : L2.St) : List V → List Opd → Prop
  | nil : OpdsOk K G σ [] []
  | cons {v : V} {vs : List V} {o : Opd} {os : List Opd} (h : OpdOk K G σ v o) (t : OpdsOk K G σ vs os) : OpdsOk K G σ (v :: vs) (o :: os)
/-- data, or a list of one's own that is looked at -/
def Bor (K : PySem.W.Frag) (G H : Hp) (v : V) (x : PyData) : Prop := Dn K G v x ∨ ∃ a vs xs, v = .ref a ∧ x = .list xs ∧ H a = some (.lst vs) ∧ DnL K G vs xs
/-- looked at -/
def use (o : Opd) (δ : DS) (k : PyData → Prop) : Prop :=
  match o with
  | .d x => k x
  | .s i => match δ[i]? with
    | some (.d x) => k x
    | some (.ol _ xs) => k (.list xs)
    | _ => False
/-- given away -/
def lk (o : Opd) (δ : DS) (k : PyData → DS → Prop) : Prop :=
  match o with
  | .d x => k x δ
  | .s i => match δ[i]? with
    | some (.d x) => k x δ
    | some (.ol _ xs) => k (.list xs) (δ.set i (.d (.list xs)))
    | _ => False
def useL : List Opd → DS → (List PyData → Prop) → Prop
  | [], _, k => k []
  | o :: os, δ, k => use o δ fun x => useL os δ fun xs => k (x :: xs)
def lkL : List Opd → DS → (List PyData → DS → Prop) → Prop
  | [], δ, k => k [] δ
  | o :: os, δ, k => lk o δ fun x δ1 => lkL os δ1 fun xs δ2 => k (x :: xs) δ2
inductive BorL (K : PySem.W.Frag) (G H : Hp) : List V → List PyData → Prop
  | nil : BorL K G H [] []
  | cons {v : V} {vs : List V} {d : PyData} {ds : List PyData} (h : Bor K G H v d) (t : BorL K G H vs ds) : BorL K G H (v :: vs) (d :: ds)
section
variable {K : PySem.W.Frag} {B G G' H H' : Hp} {δ δ' : DS} {σ : L2.St} {v : V} {o : Opd} {x : PyData}
theorem OpdOk.mono (s : Same G G') (h : OpdOk K G σ v o) : OpdOk K G' σ v o := by
  cases o with
  | d x => exact Dn.mono s x h
  | s i => exact h
theorem OpdsOk.mono (s : Same G G') : ∀ {vs : List V} {os : List Opd}, OpdsOk K G σ vs os → OpdsOk K G' σ vs os
  | _, [], h => by cases h; exact .nil
  | _, o :: os, h => by cases h with | cons a b => exact .cons (a.mono s) (OpdsOk.mono s b)
theorem Bor.dn (R : Rel K B G δ σ H) (h : Bor K G H v x) : Dn K H v x := by
  rcases h with h | ⟨a, vs, xs, rfl, rfl, e, t⟩
  · exact h.mono R.sg
  · exact .lst e (t.mono R.sg)
theorem use_ok {k : PyData → Prop} (R : Rel K B G δ σ H) (ok : OpdOk K G σ v o) (h : use o δ k) : ∃ x, k x ∧ Bor K G H v x := by
  cases o with
  | d x => exact ⟨x, h, .inl ok⟩
  | s i =>
    have ok : σ[i]? = some (some v) := ok
    unfold use at h
    simp only at h
    cases e : δ[i]? with
    | none => rw [e] at h; exact h.elim
    | some c =>
      rw [e] at h
      obtain ⟨w, hw, co⟩ := R.at e
      rw [ok] at hw; cases hw
      cases c with
      | em => exact h.elim
      | dk a b c => exact h.elim
      | scr a ns => exact h.elim
      | xc a cls d x => exact h.elim
      | ob a n fs => exact h.elim
      | fv a m => exact h.elim
      | od a kvs => exact h.elim
      | dx a b c xs n ys => exact h.elim
      | d x =>
        obtain ⟨v', e', q⟩ := co
        cases e'
        exact ⟨x, h, .inl q⟩
      | ol a xs =>
        obtain ⟨e', vs, q, t⟩ := co
        cases e'
        exact ⟨_, h, .inr ⟨a, vs, xs, rfl, rfl, q, t⟩⟩
theorem lk_ok {k : PyData → DS → Prop} (R : Rel K B G δ σ H) (ok : OpdOk K G σ v o) (h : lk o δ k) : ∃ G' δ' x, k x δ' ∧ Same G G' ∧ Rel K B G' δ' σ H ∧ Dn K G' v x := by
  cases o with
  | d x => exact ⟨G, δ, x, h, Same.refl _, R, ok⟩
  | s i =>
    have ok : σ[i]? = some (some v) := ok
    unfold lk at h
    simp only at h
    cases e : δ[i]? with
    | none => rw [e] at h; exact h.elim
    | some c =>
      rw [e] at h
      cases c with
      | em => exact h.elim
      | dk a b c => exact h.elim
      | scr a ns => exact h.elim
      | xc a cls d x => exact h.elim
      | ob a n fs => exact h.elim
      | fv a m => exact h.elim
      | od a kvs => exact h.elim
      | dx a b c xs n ys => exact h.elim
      | d x =>
        obtain ⟨w, hw, co⟩ := R.at e
        rw [ok] at hw; cases hw
        obtain ⟨v', e', q⟩ := co
        cases e'
        exact ⟨G, δ, x, h, Same.refl _, R, q⟩
      | ol a xs =>
        obtain ⟨vs, q1, q2, q3, q4, q5, q6⟩ := R.freeze e
        rw [ok] at q3; cases q3
        exact ⟨_, _, _, h, q4, q5, q6⟩
theorem useL_ok (R : Rel K B G δ σ H) : ∀ {vs : List V} {os : List Opd} {k : List PyData → Prop}, OpdsOk K G σ vs os → useL os δ k → ∃ xs, k xs ∧ BorL K G H vs xs
  | _, [], _, h, q => by cases h; exact ⟨[], q, .nil⟩
  | _, o :: os, k, h, q => by
    cases h with
    | cons a b =>
      obtain ⟨x, q1, b1⟩ := use_ok R a q
      obtain ⟨xs, q2, b2⟩ := useL_ok R b q1
      exact ⟨x :: xs, q2, .cons b1 b2⟩
theorem lkL_ok : ∀ {vs : List V} {os : List Opd} {G : Hp} {δ : DS} {k : List PyData → DS → Prop}, Rel K B G δ σ H → OpdsOk K G σ vs os → lkL os δ k → ∃ G' δ' xs, k xs δ' ∧ Same G G' ∧ Rel K B G' δ' σ H ∧ DnL K G' vs xs
  | _, [], G, δ, _, R, h, q => by cases h; exact ⟨G, δ, [], q, Same.refl _, R, .nil⟩
  | _, o :: os, G, δ, k, R, h, q => by
    cases h with
    | cons a b =>
      obtain ⟨G1, δ1, x, q1, s1, R1, d1⟩ := lk_ok R a q
      obtain ⟨G2, δ2, xs, q2, s2, R2, d2⟩ := lkL_ok R1 (b.mono s1) q1
      exact ⟨G2, δ2, x :: xs, q2, s1.trans s2, R2, .cons (d1.mono s2) d2⟩
end

abbrev DE := DS → (Opd → DS → Prop) → Prop
abbrev DT := DS → (Bool → DS → Prop) → Prop
abbrev DA := DS → (List Opd → DS → Prop) → Prop
abbrev DL := DS → (List PyData → DS → Prop) → Prop
def up (K : PySem.W.Frag) (w : DE) : TE := fun σ H Q => ∃ B G δ R, Rel K B G δ σ H ∧ w δ R ∧ ∀ v H' G' o δ', R o δ' → Same G G' → Rel K B G' δ' σ H' → OpdOk K G' σ v o → Q v H'
def upT (K : PySem.W.Frag) (w : DT) : TT := fun σ H Q => ∃ B G δ R, Rel K B G δ σ H ∧ w δ R ∧ ∀ b H' G' δ', R b δ' → Same G G' → Rel K B G' δ' σ H' → Q b H'
def upA (K : PySem.W.Frag) (w : DA) : TA := fun σ H Q => ∃ B G δ R, Rel K B G δ σ H ∧ w δ R ∧ ∀ vs H' G' os δ', R os δ' → Same G G' → Rel K B G' δ' σ H' → OpdsOk K G' σ vs os → Q vs H'
/-- a fresh list, in nobody's hands yet -/
def upL (K : PySem.W.Frag) (w : DL) : TE := fun σ H Q => ∃ B G δ R, Rel K B G δ σ H ∧ w δ R ∧ ∀ a vs H' G' xs δ', R xs δ' → Same G G' → Rel K (upd B a (.lst vs)) G' δ' σ H' → B a = none → DnL K G' vs xs → Q (.ref a) H'
abbrev JE (X : Cx) (e : Expr) (w : DE) : Prop := PE X e (up X.K w)
abbrev JT (X : Cx) (e : Expr) (w : DT) : Prop := PT X e (upT X.K w)
abbrev JW (X : Cx) (e : Expr) (w : DT) : Prop := PW X e (upT X.K w)
abbrev JA (X : Cx) (es : List Expr) (w : DA) : Prop := PA X es (upA X.K w)
abbrev JL (X : Cx) (e : Expr) (w : DL) : Prop := PE X e (upL X.K w)
section
variable {X : Cx} {e a b c : Expr} {es : List Expr} {pos : Pos}
theorem pe_le {t t' : TE} (h : PE X e t) (l : ∀ pins s σ H Q, Inv X pins σ H s → t' σ H Q → t σ H Q) : PE X e t' := ⟨fun pins s σ H Q I q => h.run pins s σ H Q I (l pins s σ H Q I q)⟩
theorem pt_le {t t' : TT} (h : PT X e t) (l : ∀ pins s σ H Q, Inv X pins σ H s → t' σ H Q → t σ H Q) : PT X e t' := ⟨fun pins s σ H Q I q => h.run pins s σ H Q I (l pins s σ H Q I q)⟩
theorem pw_le {t t' : TT} (h : PW X e t) (l : ∀ pins s σ H Q, Inv X pins σ H s → t' σ H Q → t σ H Q) : PW X e t' := ⟨fun wh pins s σ H Q I q => h.run wh pins s σ H Q I (l pins s σ H Q I q)⟩
theorem pa_le {t t' : TA} (h : PA X es t) (l : ∀ pins s σ H Q, Inv X pins σ H s → t' σ H Q → t σ H Q) : PA X es t' := ⟨fun pos pins s σ H Q I q => h.run pos pins s σ H Q I (l pins s σ H Q I q)⟩
/-- a fresh list is given away at once -/
def wOfL (w : DL) : DE := fun δ R => w δ fun xs δ' => R (.d (.list xs)) δ'
theorem je_ofL {w : DL} (h : JL X e w) : JE X e (wOfL w) := pe_le h fun pins s σ H Q I ⟨B, G, δ, R, rel, hw, k⟩ => by
  refine ⟨B, G, δ, _, rel, hw, fun a vs H' G' xs δ' r sG rel' hB t => ?_⟩
  obtain ⟨rel2, s2⟩ := rel'.takeB (p := a) hB (fun b hb => (upd_ne hb).symm) upd_same
  exact k _ H' _ _ _ r (sG.trans s2) rel2 (Dn.lst upd_same (t.mono s2))

def wVar (i : Nat) : DE := fun δ R => match δ[i]? with
  | some (.d x) => R (.d x) δ
  | some .em => False
  | none => False
  | _ => R (.s i) δ
theorem je_var {i : Nat} {x : Str} (h : PE X (.Name x pos) (tVar i)) : JE X (.Name x pos) (wVar i) := pe_le h fun pins s σ H Q I ⟨B, G, δ, R, rel, hw, k⟩ => by
  unfold wVar at hw
  cases e : δ[i]? with
  | none => rw [e] at hw; exact hw.elim
  | some c =>
    rw [e] at hw
    obtain ⟨w, hw', co⟩ := rel.at e
    cases c with
    | em => exact hw.elim
    | d x =>
      obtain ⟨v, rfl, q⟩ := co
      exact ⟨v, hw', k v H G _ _ hw (Same.refl _) rel q⟩
    | ol a xs =>
      obtain ⟨rfl, _⟩ := co
      exact ⟨_, hw', k _ H G _ _ hw (Same.refl _) rel hw'⟩
    | dk a b c =>
      obtain ⟨rfl, _⟩ := co
      exact ⟨_, hw', k _ H G _ _ hw (Same.refl _) rel hw'⟩
    | ob a n fs =>
      obtain ⟨rfl, _⟩ := co
      exact ⟨_, hw', k _ H G _ _ hw (Same.refl _) rel hw'⟩
    | fv a m =>
      obtain ⟨rfl, _⟩ := co
      exact ⟨_, hw', k _ H G _ _ hw (Same.refl _) rel hw'⟩
    | xc a cls d x =>
      obtain ⟨rfl, _⟩ := co
      exact ⟨_, hw', k _ H G _ _ hw (Same.refl _) rel hw'⟩
    | scr a ns =>
      obtain ⟨rfl, _⟩ := co
      exact ⟨_, hw', k _ H G _ _ hw (Same.refl _) rel hw'⟩
    | od a kvs =>
      obtain ⟨rfl, _⟩ := co
      exact ⟨_, hw', k _ H G _ _ hw (Same.refl _) rel hw'⟩
    | dx a b c xs n ys =>
      obtain ⟨rfl, _⟩ := co
      exact ⟨_, hw', k _ H G _ _ hw (Same.refl _) rel hw'⟩
def wC (x : PyData) : DE := fun δ R => R (.d x) δ
theorem je_c {v : V} {x : PyData} (h : PE X e (tC v)) (hv : ∀ K G, Dn K G v x) : JE X e (wC x) := pe_le h fun pins s σ H Q I ⟨B, G, δ, R, rel, hw, k⟩ => k v H G _ _ hw (Same.refl _) rel (hv _ _)
theorem je_int {i j} : JE X (.Constant (.int i) j pos) (wC (.int i)) := je_c pe_int fun _ _ => .int i
theorem je_bl {i j} : JE X (.Constant (.bool i) j pos) (wC (.bool i)) := je_c pe_bl fun _ _ => .bl i
theorem je_non {j} : JE X (.Constant .none j pos) (wC .none) := je_c pe_non fun _ _ => .non

def wNil : DA := fun δ R => R [] δ
def wCons (w : DE) (r : DA) : DA := fun δ R => w δ fun o δ1 => r δ1 fun os δ2 => R (o :: os) δ2
theorem ja_nil : JA X [] wNil := pa_le pa_nil fun pins s σ H Q I ⟨B, G, δ, R, rel, hw, k⟩ => k [] H G _ _ hw (Same.refl _) rel .nil
theorem ja_cons {w : DE} {r : DA} (ha : JE X e w) (hr : JA X es r) (hs : starEach (e :: es) X.env = (false, eval e X.env) :: starEach es X.env := by rfl) : JA X (e :: es) (wCons w r) :=
  pa_le (pa_cons ha hr hs) fun pins s σ H Q I ⟨B, G, δ, R, rel, hw, k⟩ =>
    ⟨B, G, δ, _, rel, hw, fun v H1 G1 o δ1 r1 s1 rel1 ok1 => ⟨B, G1, δ1, _, rel1, r1, fun vs H2 G2 os δ2 r2 s2 rel2 ok2 => k (v :: vs) H2 G2 _ _ r2 (s1.trans s2) rel2 (.cons (ok1.mono s2) ok2)⟩⟩

abbrev P2 := PyData → PyData → (PyData → Prop) → Prop
abbrev PN := List PyData → (PyData → Prop) → Prop
def rOf (K : PySem.W.Frag) (p : P2) : R2 := fun x y H Q => ∃ B G δ σ dx dy R, Rel K B G δ σ H ∧ Bor K G H x dx ∧ Bor K G H y dy ∧ p dx dy R ∧ ∀ v H' G' z, R z → Same G G' → Rel K B G' δ σ H' → Dn K G' v z → Q v H'
abbrev OpD (X : Cx) (f : Value → Value → Sem Value) (p : P2) : Prop := OpR X f (rOf X.K p)
def wOp (p : P2) (wa wb : DE) : DE := fun δ R => wa δ fun o1 δ1 => wb δ1 fun o2 δ2 => use o1 δ2 fun x => use o2 δ2 fun y => p x y fun z => R (.d z) δ2
theorem op_up {p : P2} {wa wb : DE} {K : PySem.W.Frag} {σ : L2.St} {H : Hp} {Q : VK} (h : up K (wOp p wa wb) σ H Q) : tOp (rOf K p) (up K wa) (up K wb) σ H Q := by
  obtain ⟨B, G, δ, R, rel, hw, k⟩ := h
  refine ⟨B, G, δ, _, rel, hw, fun v H1 G1 o1 δ1 r1 s1 rel1 ok1 => ⟨B, G1, δ1, _, rel1, r1, fun u H2 G2 o2 δ2 r2 s2 rel2 ok2 => ?_⟩⟩
  obtain ⟨x, q1, b1⟩ := use_ok rel2 (ok1.mono s2) r2
  obtain ⟨y, q2, b2⟩ := use_ok rel2 ok2 q1
  exact ⟨B, G2, δ2, σ, x, y, _, rel2, b1, b2, q2, fun v' H' G' z rz s3 rel3 dz => k v' H' G' _ _ rz (s1.trans (s2.trans s3)) rel3 dz⟩
theorem je_op {p : P2} {op : Operator} {wa wb : DE} (ho : OpD X (binaryOp op) p) (ha : JE X a wa) (hb : JE X b wb) : JE X (.BinOp a op b pos) (wOp p wa wb) :=
  pe_le (pe_op ho ha hb) fun _ _ _ _ _ _ h => op_up h
theorem je_cmp {p : P2} {op : CmpOp} {wa wb : DE} (ho : OpD X (compareOp op) p) (ha : JE X a wa) (hb : JE X b wb) (hm : behindInMarks op b = false := by rfl) : JE X (.Compare a [op] [b] pos) (wOp p wa wb) :=
  pe_le (pe_cmpR ho ha hb hm) fun _ _ _ _ _ _ h => op_up h
/-- a test by a value that is True or False -/
def wB (w : DE) : DT := fun δ R => w δ fun o δ1 => use o δ1 fun x => ∃ b, x = .bool b ∧ R b δ1
theorem dn_bool {K : PySem.W.Frag} {G : Hp} {v : V} {b : Bool} (h : Dn K G v (.bool b)) : v = .bl b := by cases h; rfl
theorem dn_int {K : PySem.W.Frag} {G : Hp} {v : V} {b : Int} (h : Dn K G v (.int b)) : v = .int b := by cases h; rfl
theorem dn_str {K : PySem.W.Frag} {G : Hp} {v : V} {b : Str} (h : Dn K G v (.str b)) : v = .str b := by cases h; rfl
theorem dn_none {K : PySem.W.Frag} {G : Hp} {v : V} (h : Dn K G v .none) : v = .non := by cases h; rfl
theorem bor_bool {K : PySem.W.Frag} {G H : Hp} {v : V} {b : Bool} (h : Bor K G H v (.bool b)) : v = .bl b := by
  rcases h with h | ⟨_, _, _, _, e, _⟩
  · exact dn_bool h
  · cases e
theorem bor_int {K : PySem.W.Frag} {G H : Hp} {v : V} {b : Int} (h : Bor K G H v (.int b)) : v = .int b := by
  rcases h with h | ⟨_, _, _, _, e, _⟩
  · exact dn_int h
  · cases e
theorem bor_str {K : PySem.W.Frag} {G H : Hp} {v : V} {b : Str} (h : Bor K G H v (.str b)) : v = .str b := by
  rcases h with h | ⟨_, _, _, _, e, _⟩
  · exact dn_str h
  · cases e
theorem bor_none {K : PySem.W.Frag} {G H : Hp} {v : V} (h : Bor K G H v .none) : v = .non := by
  rcases h with h | ⟨_, _, _, _, e, _⟩
  · exact dn_none h
  · cases e
theorem bor_tup {K : PySem.W.Frag} {G H : Hp} {v : V} {ds : List PyData} (h : Bor K G H v (.tuple ds)) : ∃ a vs, v = .ref a ∧ SqT K G a vs ∧ DnL K G vs ds := by
  rcases h with h | ⟨_, _, _, _, e, _⟩
  · cases h with | tup h t => exact ⟨_, _, rfl, SqT.of h, t⟩
  · cases e
theorem bor_tupS {K : PySem.W.Frag} {G H : Hp} {v : V} {ds : List PyData} (h : Bor K G H v (.tuple ds)) : ∃ a vs, v = .ref a ∧ G a = some (.tup vs) ∧ DnL K G vs ds := by
  rcases h with h | ⟨_, _, _, _, e, _⟩
  · cases h with | tup h t => exact ⟨_, _, rfl, h, t⟩
  · cases e
/-- a list: its items stand for what never changes; it can be read where the heap stands now -/
theorem bor_lst {K : PySem.W.Frag} {B G H : Hp} {δ : DS} {σ : L2.St} {v : V} {ds : List PyData} (R : Rel K B G δ σ H) (h : Bor K G H v (.list ds)) : ∃ a vs, v = .ref a ∧ H a = some (.lst vs) ∧ DnL K G vs ds := by
  rcases h with h | ⟨a, vs, xs, rfl, e, q, t⟩
  · cases h with | lst h t => exact ⟨_, _, rfl, R.sg _ _ h, t⟩
  · cases e; exact ⟨a, vs, rfl, q, t⟩
theorem b_up {w : DE} {K : PySem.W.Frag} {σ : L2.St} {H : Hp} {Q : Bool → Hp → Prop} (h : upT K (wB w) σ H Q) : up K w σ H fun x H1 => ∃ c, x = .bl c ∧ Q c H1 := by
  obtain ⟨B, G, δ, R, rel, hw, k⟩ := h
  refine ⟨B, G, δ, _, rel, hw, fun v H1 G1 o1 δ1 r1 s1 rel1 ok1 => ?_⟩
  obtain ⟨x, ⟨b, rfl, q⟩, b1⟩ := use_ok rel1 ok1 r1
  exact ⟨b, bor_bool b1, k b H1 G1 _ q s1 rel1⟩
theorem jt_val {w : DE} (h : JE X e w) (he : ∀ whole, isTrue e X.env whole = (do let v ← whole; standAt e.pos; holding [v] (truthy v)) := by intro _; rfl) : JT X e (wB w) :=
  pt_le (pt_val h he) fun _ _ _ _ _ _ h => b_up h
theorem jt_cmp {p : P2} {op : CmpOp} {wa wb : DE} (ho : OpD X (compareOp op) p) (ha : JE X a wa) (hb : JE X b wb) (hm : behindInMarks op b = false := by rfl) : JT X (.Compare a [op] [b] pos) (wB (wOp p wa wb)) :=
  pt_le (pt_cmpR ho ha hb hm) fun _ _ _ _ _ _ h => by
    have h2 := b_up h
    exact op_up h2
def wChain (p q : P2) (wa wb wc : DE) : DE := fun δ R => wa δ fun o1 δ1 => wb δ1 fun o2 δ2 => use o1 δ2 fun x => use o2 δ2 fun y => p x y fun z => ∃ k, z = .bool k ∧
  if k = true then wc δ2 fun o3 δ3 => use o2 δ3 fun y => use o3 δ3 fun w => q y w fun z => R (.d z) δ3 else R (.d (.bool false)) δ2
theorem chain_up {p q : P2} {wa wb wc : DE} {K : PySem.W.Frag} {σ : L2.St} {H : Hp} {Q : VK} (h : up K (wChain p q wa wb wc) σ H Q) : tChain (rOf K p) (rOf K q) (up K wa) (up K wb) (up K wc) σ H Q := by
  obtain ⟨B, G, δ, R, rel, hw, k⟩ := h
  refine ⟨B, G, δ, _, rel, hw, fun v H1 G1 o1 δ1 r1 s1 rel1 ok1 => ⟨B, G1, δ1, _, rel1, r1, fun u H2 G2 o2 δ2 r2 s2 rel2 ok2 => ?_⟩⟩
  obtain ⟨x, q1, b1⟩ := use_ok rel2 (ok1.mono s2) r2
  obtain ⟨y, q2, b2⟩ := use_ok rel2 ok2 q1
  refine ⟨B, G2, δ2, σ, x, y, _, rel2, b1, b2, q2, fun v' H' G' z rz s3 rel3 dz => ?_⟩
  obtain ⟨kb, rfl, rz⟩ := rz
  refine ⟨kb, dn_bool dz, ?_⟩
  cases kb with
  | false =>
    rw [if_neg Bool.false_ne_true] at rz ⊢
    exact k _ H' G' _ _ rz (s1.trans (s2.trans s3)) rel3 (Dn.bl false)
  | true =>
    rw [if_pos rfl] at rz ⊢
    refine ⟨B, G', δ2, _, rel3, rz, fun w H4 G4 o3 δ4 r4 s4 rel4 ok4 => ?_⟩
    obtain ⟨y', q3, b3⟩ := use_ok rel4 (ok2.mono (s3.trans s4)) r4
    obtain ⟨w', q4, b4⟩ := use_ok rel4 ok4 q3
    exact ⟨B, G4, δ4, σ, y', w', _, rel4, b3, b4, q4, fun v' H' G5 z rz s5 rel5 dz => k v' H' G5 _ _ rz (s1.trans (s2.trans (s3.trans (s4.trans s5)))) rel5 dz⟩
theorem je_chain {p q : P2} {op op' : CmpOp} {wa wb wc : DE} (ho : OpD X (compareOp op) p) (ho' : OpD X (compareOp op') q) (ha : JE X a wa) (hb : JE X b wb) (hc : JE X c wc) (hm : lastMarks [op, op'] [b, c] = false := by rfl) : JE X (.Compare a [op, op'] [b, c] pos) (wChain p q wa wb wc) :=
  pe_le (pe_chain ho ho' ha hb hc (hm := hm)) fun _ _ _ _ _ _ h => chain_up h
variable {rest : List Expr}
def wAnd (t u : DT) : DT := fun δ R => t δ fun k δ1 => if k = true then u δ1 R else R false δ1
def wOr (t u : DT) : DT := fun δ R => t δ fun k δ1 => if k = true then R true δ1 else u δ1 R
def wNot (t : DT) : DT := fun δ R => t δ fun k δ1 => R (!k) δ1
theorem jw_and1 {t : DT} (h : JT X a t) : JW X (.BoolOp .And [a] pos) t := pw_and1 h
theorem jw_or1 {t : DT} (h : JT X a t) : JW X (.BoolOp .Or [a] pos) t := pw_or1 h
theorem jw_and {t u : DT} (ha : JT X a t) (hb : JW X (.BoolOp .And (b :: rest) pos) u) : JW X (.BoolOp .And (a :: b :: rest) pos) (wAnd t u) :=
  pw_le (pw_and ha hb) fun pins s σ H Q I ⟨B, G, δ, R, rel, hw, k⟩ => ⟨B, G, δ, _, rel, hw, fun c H1 G1 δ1 r1 s1 rel1 => by
    cases c with
    | true => rw [if_pos rfl] at r1 ⊢; exact ⟨B, G1, δ1, _, rel1, r1, fun b H2 G2 δ2 r2 s2 rel2 => k b H2 G2 δ2 r2 (s1.trans s2) rel2⟩
    | false => rw [if_neg Bool.false_ne_true] at r1 ⊢; exact k false H1 G1 δ1 r1 s1 rel1⟩
theorem jw_or {t u : DT} (ha : JT X a t) (hb : JW X (.BoolOp .Or (b :: rest) pos) u) : JW X (.BoolOp .Or (a :: b :: rest) pos) (wOr t u) :=
  pw_le (pw_or ha hb) fun pins s σ H Q I ⟨B, G, δ, R, rel, hw, k⟩ => ⟨B, G, δ, _, rel, hw, fun c H1 G1 δ1 r1 s1 rel1 => by
    cases c with
    | false => rw [if_neg Bool.false_ne_true] at r1 ⊢; exact ⟨B, G1, δ1, _, rel1, r1, fun b H2 G2 δ2 r2 s2 rel2 => k b H2 G2 δ2 r2 (s1.trans s2) rel2⟩
    | true => rw [if_pos rfl] at r1 ⊢; exact k true H1 G1 δ1 r1 s1 rel1⟩
theorem jt_w {t : DT} (h : JW X e t) : JT X e t := PW.pt h
theorem jt_not {t : DT} (h : JT X a t) : JT X (.UnaryOp .Not a pos) (wNot t) :=
  pt_le (pt_not h) fun pins s σ H Q I ⟨B, G, δ, R, rel, hw, k⟩ => ⟨B, G, δ, _, rel, hw, fun c H1 G1 δ1 r1 s1 rel1 => k (!c) H1 G1 δ1 r1 s1 rel1⟩
/-- .. as values, True and False alone -/
def wAndV (w u : DE) : DE := fun δ R => w δ fun o δ1 => use o δ1 fun x => ∃ k, x = .bool k ∧ if k = true then u δ1 R else R (.d (.bool false)) δ1
def wOrV (w u : DE) : DE := fun δ R => w δ fun o δ1 => use o δ1 fun x => ∃ k, x = .bool k ∧ if k = true then R (.d (.bool true)) δ1 else u δ1 R
def wNotV (w : DE) : DE := fun δ R => w δ fun o δ1 => use o δ1 fun x => ∃ k, x = .bool k ∧ R (.d (.bool (!k))) δ1
theorem je_one {op} {w : DE} (h : JE X a w) : JE X (.BoolOp op [a] pos) w := pe_one h
theorem je_and {w u : DE} (ha : JE X a w) (hb : JE X (.BoolOp .And (b :: rest) pos) u) : JE X (.BoolOp .And (a :: b :: rest) pos) (wAndV w u) :=
  pe_le (pe_and ha hb) fun pins s σ H Q I ⟨B, G, δ, R, rel, hw, k⟩ => ⟨B, G, δ, _, rel, hw, fun v H1 G1 o δ1 r1 s1 rel1 ok1 => by
    obtain ⟨x, ⟨c, rfl, q⟩, b1⟩ := use_ok rel1 ok1 r1
    refine ⟨c, bor_bool b1, ?_⟩
    cases c with
    | true => rw [if_pos rfl] at q ⊢; exact ⟨B, G1, δ1, _, rel1, q, fun b H2 G2 o2 δ2 r2 s2 rel2 ok2 => k b H2 G2 o2 δ2 r2 (s1.trans s2) rel2 ok2⟩
    | false => rw [if_neg Bool.false_ne_true] at q ⊢; exact k _ H1 G1 _ δ1 q s1 rel1 (Dn.bl false)⟩
theorem je_not {w : DE} (h : JE X a w) : JE X (.UnaryOp .Not a pos) (wNotV w) :=
  pe_le (pe_not h) fun pins s σ H Q I ⟨B, G, δ, R, rel, hw, k⟩ => ⟨B, G, δ, _, rel, hw, fun v H1 G1 o δ1 r1 s1 rel1 ok1 => by
    obtain ⟨x, ⟨c, rfl, q⟩, b1⟩ := use_ok rel1 ok1 r1
    exact ⟨c, bor_bool b1, k _ H1 G1 _ δ1 q s1 rel1 (Dn.bl _)⟩⟩
def wIfE (t : DT) (wa wb : DE) : DE := fun δ R => t δ fun k δ1 => if k = true then wa δ1 R else wb δ1 R
theorem je_ifE {t : DT} {wa wb : DE} (hc : JT X c t) (ha : JE X a wa) (hb : JE X b wb) : JE X (.IfExp c a b pos) (wIfE t wa wb) :=
  pe_le (pe_ifExp hc ha hb) fun pins s σ H Q I ⟨B, G, δ, R, rel, hw, k⟩ => ⟨B, G, δ, _, rel, hw, fun d H1 G1 δ1 r1 s1 rel1 => by
    cases d with
    | true => rw [if_pos rfl] at r1 ⊢; exact ⟨B, G1, δ1, _, rel1, r1, fun b H2 G2 o2 δ2 r2 s2 rel2 ok2 => k b H2 G2 o2 δ2 r2 (s1.trans s2) rel2 ok2⟩
    | false => rw [if_neg Bool.false_ne_true] at r1 ⊢; exact ⟨B, G1, δ1, _, rel1, r1, fun b H2 G2 o2 δ2 r2 s2 rel2 ok2 => k b H2 G2 o2 δ2 r2 (s1.trans s2) rel2 ok2⟩⟩
def pNeg (x : PyData) (R : PyData → Prop) : Prop := match x with
  | .int i => R (.int (-i))
  | _ => False
def wUn (p : PyData → (PyData → Prop) → Prop) (w : DE) : DE := fun δ R => w δ fun o δ1 => use o δ1 fun x => p x fun z => R (.d z) δ1
theorem je_neg {w : DE} (h : JE X a w) : JE X (.UnaryOp .USub a pos) (wUn pNeg w) :=
  pe_le (pe_un un_neg h) fun pins s σ H Q I ⟨B, G, δ, R, rel, hw, k⟩ => ⟨B, G, δ, _, rel, hw, fun v H1 G1 o δ1 r1 s1 rel1 ok1 => by
    obtain ⟨x, q, b1⟩ := use_ok rel1 ok1 r1
    cases x with
    | int i => exact ⟨i, bor_int b1, k _ H1 G1 _ δ1 q s1 rel1 (Dn.int _)⟩
    | _ => exact q.elim⟩
def wTup (w : DA) : DE := fun δ R => w δ fun os δ1 => lkL os δ1 fun xs δ2 => xs.length ≤ 1000 ∧ R (.d (.tuple xs)) δ2
def wLst (w : DA) : DL := fun δ R => w δ fun os δ1 => lkL os δ1 fun xs δ2 => xs.length ≤ 1000 ∧ R xs δ2
theorem le_line {n : Nat} (h : n ≤ 1000) : n ≤ sizeLine := by rw [sizeLine_eq]; omega
theorem je_tup {w : DA} {x1} (h : JA X es w) : JE X (.Tuple es x1 pos) (wTup w) :=
  pe_le (pe_tup h) fun pins s σ H Q I ⟨B, G, δ, R, rel, hw, k⟩ => ⟨B, G, δ, _, rel, hw, fun vs H1 G1 os δ1 r1 s1 rel1 ok1 => by
    obtain ⟨G2, δ2, xs, ⟨hl, q⟩, s2, rel2, t⟩ := lkL_ok rel1 ok1 r1
    refine ⟨by rw [t.len]; exact le_line hl, fun p np => ?_⟩
    obtain ⟨rel3, s3⟩ := rel2.laid (o := .tup vs) np
    exact k _ _ _ _ _ q (s1.trans (s2.trans s3)) rel3 (Dn.tup upd_same (t.mono s3))⟩
theorem jl_lst {w : DA} (h : JA X es w) : JL X (.List es pos) (wLst w) :=
  pe_le (pe_lst h) fun pins s σ H Q I ⟨B, G, δ, R, rel, hw, k⟩ => ⟨B, G, δ, _, rel, hw, fun vs H1 G1 os δ1 r1 s1 rel1 ok1 => by
    obtain ⟨G2, δ2, xs, ⟨hl, q⟩, s2, rel2, t⟩ := lkL_ok rel1 ok1 r1
    refine ⟨by rw [t.len]; exact le_line hl, fun p np => ?_⟩
    exact k p vs _ _ _ _ q (s1.trans s2) (rel2.growB np) (rel2.freeB np) t⟩
/-- {} -/
def wDic : DE := fun δ R => R (.d (.dict [])) δ
def rOfN (K : PySem.W.Frag) (p : PN) : List V → Hp → VK → Prop := fun vs H Q => ∃ B G δ σ ds R, Rel K B G δ σ H ∧ BorL K G H vs ds ∧ p ds R ∧ ∀ v H' G' z, R z → Same G G' → Rel K B G' δ σ H' → Dn K G' v z → Q v H'
abbrev CallD (X : Cx) (f : Value) (p : PN) : Prop := CallR X f (rOfN X.K p)
def wFn (p : PN) (w : DA) : DE := fun δ R => w δ fun os δ1 => useL os δ1 fun xs => p xs fun z => R (.d z) δ1
theorem fn_up {p : PN} {w : DA} {K : PySem.W.Frag} {σ : L2.St} {H : Hp} {Q : VK} (h : up K (wFn p w) σ H Q) : tCB (rOfN K p) (upA K w) σ H Q := by
  obtain ⟨B, G, δ, R, rel, hw, k⟩ := h
  refine ⟨B, G, δ, _, rel, hw, fun vs H1 G1 os δ1 r1 s1 rel1 ok1 => ?_⟩
  obtain ⟨xs, q, b⟩ := useL_ok rel1 ok1 r1
  exact ⟨B, G1, δ1, σ, xs, _, rel1, b, q, fun v H' G' z rz s2 rel2 dz => k v H' G' _ _ rz (s1.trans s2) rel2 dz⟩
theorem je_fn {p : PN} {w : DA} {id : String} {x : Str} {px : Pos} (hc : CallD X (.builtin id) p) (hg : Gl X x) (hm : X.mg x = none) (hv : bootBuiltins x = some (.builtin id)) (ha : JA X (e :: es) w) (hn : x ≠ "__name__" := by decide) (hdb : (x == ("__debug__" : Str)) = false := by decide)
    (he : starEach (e :: es) X.env = (false, eval e X.env) :: starEach es X.env := by rfl) (hpl : (backTo pos (starEach es X.env)).any (·.1) = false := by rfl) : JE X (.Call (.Name x px) (e :: es) [] pos) (wFn p w) :=
  pe_le (pe_callB hc hg hm hv ha hn hdb he hpl) fun _ _ _ _ _ _ h => fn_up h
theorem je_ty {p : PN} {w : DA} {T : String} {x : Str} {px : Pos} (hc : CallD X (.type T) p) (hg : Gl X x) (hm : X.mg x = none) (hv : bootBuiltins x = some (.type T)) (ha : JA X (e :: es) w) (hn : x ≠ "__name__" := by decide) (hdb : (x == ("__debug__" : Str)) = false := by decide)
    (he : starEach (e :: es) X.env = (false, eval e X.env) :: starEach es X.env := by rfl) (hpl : (backTo pos (starEach es X.env)).any (·.1) = false := by rfl) : JE X (.Call (.Name x px) (e :: es) [] pos) (wFn p w) :=
  pe_le (pe_callTy hc hg hm hv ha hn hdb he hpl) fun _ _ _ _ _ _ h => fn_up h
def rOfNL (K : PySem.W.Frag) (p : List PyData → (List PyData → Prop) → Prop) : List V → Hp → VK → Prop := fun vs H Q => ∃ B G δ σ ds R, Rel K B G δ σ H ∧ BorL K G H vs ds ∧ p ds R ∧ ∀ a ws H' G' z, R z → Same G G' → Rel K (upd B a (.lst ws)) G' δ σ H' → B a = none → DnL K G' ws z → Q (.ref a) H'
abbrev CallDL (X : Cx) (f : Value) (p : List PyData → (List PyData → Prop) → Prop) : Prop := CallR X f (rOfNL X.K p)
def wFnL (p : List PyData → (List PyData → Prop) → Prop) (w : DA) : DL := fun δ R => w δ fun os δ1 => useL os δ1 fun xs => p xs fun z => R z δ1
theorem fnL_up {p : List PyData → (List PyData → Prop) → Prop} {w : DA} {K : PySem.W.Frag} {σ : L2.St} {H : Hp} {Q : VK} (h : upL K (wFnL p w) σ H Q) : tCB (rOfNL K p) (upA K w) σ H Q := by
  obtain ⟨B, G, δ, R, rel, hw, k⟩ := h
  refine ⟨B, G, δ, _, rel, hw, fun vs H1 G1 os δ1 r1 s1 rel1 ok1 => ?_⟩
  obtain ⟨xs, q, b⟩ := useL_ok rel1 ok1 r1
  exact ⟨B, G1, δ1, σ, xs, _, rel1, b, q, fun a ws H' G' z rz s2 rel2 hB dz => k a ws H' G' _ _ rz (s1.trans s2) rel2 hB dz⟩
theorem jl_ty {p : List PyData → (List PyData → Prop) → Prop} {w : DA} {T : String} {x : Str} {px : Pos} (hc : CallDL X (.type T) p) (hg : Gl X x) (hm : X.mg x = none) (hv : bootBuiltins x = some (.type T)) (ha : JA X (e :: es) w) (hn : x ≠ "__name__" := by decide) (hdb : (x == ("__debug__" : Str)) = false := by decide)
    (he : starEach (e :: es) X.env = (false, eval e X.env) :: starEach es X.env := by rfl) (hpl : (backTo pos (starEach es X.env)).any (·.1) = false := by rfl) : JL X (.Call (.Name x px) (e :: es) [] pos) (wFnL p w) :=
  pe_le (pe_callTy hc hg hm hv ha hn hdb he hpl) fun _ _ _ _ _ _ h => fnL_up h
/-- xs + ys, xs * n -/
abbrev P2L := PyData → PyData → (List PyData → Prop) → Prop
def rOfL (K : PySem.W.Frag) (p : P2L) : R2 := fun x y H Q => ∃ B G δ σ dx dy R, Rel K B G δ σ H ∧ Bor K G H x dx ∧ Bor K G H y dy ∧ p dx dy R ∧ ∀ a ws H' G' z, R z → Same G G' → Rel K (upd B a (.lst ws)) G' δ σ H' → B a = none → DnL K G' ws z → Q (.ref a) H'
abbrev OpDL (X : Cx) (f : Value → Value → Sem Value) (p : P2L) : Prop := OpR X f (rOfL X.K p)
def wOpL (p : P2L) (wa wb : DE) : DL := fun δ R => wa δ fun o1 δ1 => wb δ1 fun o2 δ2 => use o1 δ2 fun x => use o2 δ2 fun y => p x y fun z => R z δ2
theorem opL_up {p : P2L} {wa wb : DE} {K : PySem.W.Frag} {σ : L2.St} {H : Hp} {Q : VK} (h : upL K (wOpL p wa wb) σ H Q) : tOp (rOfL K p) (up K wa) (up K wb) σ H Q := by
  obtain ⟨B, G, δ, R, rel, hw, k⟩ := h
  refine ⟨B, G, δ, _, rel, hw, fun v H1 G1 o1 δ1 r1 s1 rel1 ok1 => ⟨B, G1, δ1, _, rel1, r1, fun u H2 G2 o2 δ2 r2 s2 rel2 ok2 => ?_⟩⟩
  obtain ⟨x, q1, b1⟩ := use_ok rel2 (ok1.mono s2) r2
  obtain ⟨y, q2, b2⟩ := use_ok rel2 ok2 q1
  exact ⟨B, G2, δ2, σ, x, y, _, rel2, b1, b2, q2, fun a ws H' G' z rz s3 rel3 hB dz => k a ws H' G' _ _ rz (s1.trans (s2.trans s3)) rel3 hB dz⟩
theorem jl_op {p : P2L} {op : Operator} {wa wb : DE} (ho : OpDL X (binaryOp op) p) (ha : JE X a wa) (hb : JE X b wb) : JL X (.BinOp a op b pos) (wOpL p wa wb) :=
  pe_le (pe_op ho ha hb) fun _ _ _ _ _ _ h => opL_up h
abbrev IxD (X : Cx) (p : P2) : Prop := IxR X (rOf X.K p)
theorem je_ix {p : P2} {wa wb : DE} (hr : IxD X p) (ha : JE X a wa) (hb : JE X b wb) (hs : PlainIx b) : JE X (.Subscript a b pos) (wOp p wa wb) :=
  pe_le (pe_ix hr ha hb hs) fun _ _ _ _ _ _ h => op_up h
abbrev DO := DS → (Option Int → DS → Prop) → Prop
def upO (K : PySem.W.Frag) (w : DO) : TO := fun σ H Q => ∃ B G δ R, Rel K B G δ σ H ∧ w δ R ∧ ∀ i H' G' δ', R i δ' → Same G G' → Rel K B G' δ' σ H' → Q i H'
abbrev JO (X : Cx) (e : Option Expr) (w : DO) : Prop := PO X e (upO X.K w)
def wNoP : DO := fun δ R => R none δ
def wPart (w : DE) : DO := fun δ R => w δ fun o δ1 => use o δ1 fun x => ∃ i, x = .int i ∧ R (some i) δ1
theorem po_le {e : Option Expr} {t t' : TO} (h : PO X e t) (l : ∀ pins s σ H Q, Inv X pins σ H s → t' σ H Q → t σ H Q) : PO X e t' := ⟨fun pins s σ H Q I q => h.run pins s σ H Q I (l pins s σ H Q I q)⟩
theorem jo_none : JO X none wNoP := po_le po_none fun pins s σ H Q I ⟨B, G, δ, R, rel, hw, k⟩ => k none H G δ hw (Same.refl _) rel
theorem jo_some {w : DE} (h : JE X e w) : JO X (some e) (wPart w) := po_le (po_some h) fun pins s σ H Q I ⟨B, G, δ, R, rel, hw, k⟩ => ⟨B, G, δ, _, rel, hw, fun v H1 G1 o δ1 r1 s1 rel1 ok1 => by
  obtain ⟨x, ⟨i, rfl, q⟩, b⟩ := use_ok rel1 ok1 r1
  exact ⟨i, bor_int b, k _ H1 G1 δ1 q s1 rel1⟩⟩
abbrev P3 := PyData → Option Int → Option Int → (PyData → Prop) → Prop
def rOfS (K : PySem.W.Frag) (p : P3) : V → Option Int → Option Int → Hp → VK → Prop := fun x lo hi H Q => ∃ B G δ σ dx R, Rel K B G δ σ H ∧ Bor K G H x dx ∧ p dx lo hi R ∧ ∀ v H' G' z, R z → Same G G' → Rel K B G' δ σ H' → Dn K G' v z → Q v H'
def wSl (p : P3) (w : DE) (l h : DO) : DE := fun δ R => w δ fun o δ1 => l δ1 fun i δ2 => h δ2 fun j δ3 => use o δ3 fun x => p x i j fun z => R (.d z) δ3
theorem je_sl {p : P3} {w : DE} {l h : DO} {lo hi : Option Expr} {p2 : Pos} (hr : SlR X (rOfS X.K p)) (he : JE X e w) (hl : JO X lo l) (hh : JO X hi h) : JE X (.Subscript e (.Slice lo hi none p2) pos) (wSl p w l h) :=
  pe_le (pe_slice hr he hl hh) fun pins s σ H Q I ⟨B, G, δ, R, rel, hw, k⟩ => ⟨B, G, δ, _, rel, hw, fun v H1 G1 o δ1 r1 s1 rel1 ok1 => ⟨B, G1, δ1, _, rel1, r1, fun i H2 G2 δ2 r2 s2 rel2 => ⟨B, G2, δ2, _, rel2, r2, fun j H3 G3 δ3 r3 s3 rel3 => by
    obtain ⟨x, q, b⟩ := use_ok rel3 (ok1.mono (s2.trans s3)) r3
    exact ⟨B, G3, δ3, σ, x, _, rel3, b, q, fun v' H' G' z rz s4 rel4 dz => k v' H' G' _ _ rz (s1.trans (s2.trans (s3.trans s4))) rel4 dz⟩⟩⟩⟩
end
end DL
set_option Elab.async false
set_option linter.all false
set_option maxRecDepth 100000
set_option maxHeartbeats 4000000
namespace DL
open PySem PySem.Spec PyProof.Rows L2
variable [Tb]

mutual
theorem Dn.dp {K : PySem.W.Frag} {H : Hp} : ∀ (d : PyData) {v : V}, d.hasDict = false → Dn K H v d → Dp K H v d
  | .none, _, _, h => by cases h; exact .non
  | .bool b, _, _, h => by cases h; exact .bl b
  | .int i, _, _, h => by cases h; exact .int i
  | .str x, _, _, h => by cases h; exact .str x
  | .list ds, _, z, h => by cases h with | lst h t => exact .lst (SqL.of h) (DnL.dp ds (by simpa [PyData.hasDict] using z) t)
  | .tuple ds, _, z, h => by cases h with | tup h t => exact .tup (SqT.of h) (DnL.dp ds (by simpa [PyData.hasDict] using z) t)
  | .dict kvs, _, z, h => by simp [PyData.hasDict] at z
theorem DnL.dp {K : PySem.W.Frag} {H : Hp} : ∀ (ds : List PyData) {vs : List V}, PyData.hasDictAll ds = false → DnL K H vs ds → DpAll K H vs ds
  | [], _, _, h => by cases h; exact .nil
  | d :: ds, _, z, h => by
    have z' : d.hasDict = false ∧ PyData.hasDictAll ds = false := by simpa [PyData.hasDictAll] using z
    cases h with | cons a b => exact .cons (Dn.dp d z'.1 a) (DnL.dp ds z'.2 b)
end
theorem noDict_of_shaped {d : PyData} (h : SeqAt.shaped d = true) : d.hasDict = false := PyData.hasDict_of_canLay d (SeqAt.canLay_of_shaped h)

section
variable {X : Cx}
abbrev ints2 (f : Int → Int → (PyData → Prop) → Prop) : P2 := fun x y R => match x, y with
  | .int i, .int j => f i j R
  | _, _ => False
theorem opd_ints {f : Value → Value → Sem Value} {C : Int → Int → Prop} {g : Int → Int → Int} {p : Int → Int → (PyData → Prop) → Prop} (h : OpR X f (rI C fun i j => .int (g i j))) (hp : ∀ i j R, p i j R → C i j ∧ R (.int (g i j))) : OpD X f (ints2 p) := by
  intro pins s σ H x y v u Q I rx ry ⟨B, G, δ, σ', dx, dy, R, rel, bx, by', q, k⟩
  cases dx <;> cases dy <;> first | exact False.elim q | skip
  obtain ⟨c, r⟩ := hp _ _ _ q
  exact h pins s σ H x y v u Q I rx ry ⟨_, _, bor_int bx, bor_int by', c, k _ H G _ r (Same.refl _) rel (Dn.int _)⟩
theorem opd_ints0 {f : Value → Value → Sem Value} {g : Int → Int → Int} (h : OpR X f (rI0 fun i j => .int (g i j))) : OpD X f (ints2 fun i j R => R (.int (g i j))) := by
  intro pins s σ H x y v u Q I rx ry ⟨B, G, δ, σ', dx, dy, R, rel, bx, by', q, k⟩
  cases dx <;> cases dy <;> first | exact False.elim q | skip
  exact h pins s σ H x y v u Q I rx ry ⟨_, _, bor_int bx, bor_int by', k _ H G _ q (Same.refl _) rel (Dn.int _)⟩
theorem opd_bools {f : Value → Value → Sem Value} {g : Int → Int → Bool} (h : OpR X f (rI0 fun i j => .bl (g i j))) : OpD X f (ints2 fun i j R => R (.bool (g i j))) := by
  intro pins s σ H x y v u Q I rx ry ⟨B, G, δ, σ', dx, dy, R, rel, bx, by', q, k⟩
  cases dx <;> cases dy <;> first | exact False.elim q | skip
  exact h pins s σ H x y v u Q I rx ry ⟨_, _, bor_int bx, bor_int by', k _ H G _ q (Same.refl _) rel (Dn.bl _)⟩

def pSub : P2 := ints2 fun i j R => R (.int (i - j))
def pMul : P2 := fun x y R => match x, y with
  | .int i, .int j => (CMul i j ∨ CMulW i j) ∧ R (.int (i * j))
  | .list xs, .int k => 0 ≤ k ∧ xs.length * k.toNat ≤ 1000000 ∧ k < 1000000 ∧ R (.list (List.replicate k.toNat xs).flatten)
  | _, _ => False
def pDiv : P2 := ints2 fun i j R => (0 < j ∧ j.natAbs.log2 < 9000) ∧ R (.int (i / j))
def pMod : P2 := ints2 fun i j R => 0 < j ∧ R (.int (i % j))
def pPow : P2 := ints2 fun i j R => CPow i j ∧ R (.int (i ^ j.toNat))
def pShl : P2 := ints2 fun i j R => CPow i j ∧ R (.int (i * 2 ^ j.toNat))
def pAnd : P2 := ints2 fun i j R => R (.int (Builtin.bitAnd i j))
def pOr : P2 := ints2 fun i j R => R (.int (Builtin.bitOr i j))
def pLt : P2 := fun x y R => match x, y with
  | .int i, .int j => R (.bool (decide (i < j)))
  | _, _ => False
def pLe : P2 := ints2 fun i j R => R (.bool (decide (i ≤ j)))
def pGt : P2 := ints2 fun i j R => R (.bool (decide (j < i)))
def pGe : P2 := ints2 fun i j R => R (.bool (decide (j ≤ i)))
def pAdd : P2 := fun x y R => match x, y with
  | .int i, .int j => R (.int (i + j))
  | .str a, .str b => a.length + b.length ≤ 1000000 ∧ R (.str (a ++ b))
  | .tuple xs, .tuple ys => xs.length + ys.length ≤ 1000000 ∧ R (.tuple (xs ++ ys))
  | .list xs, .list ys => xs.length + ys.length ≤ 1000000 ∧ R (.list (xs ++ ys))
  | _, _ => False
theorem million {n : Nat} (h : n ≤ 1000000) : n ≤ sizeLine := by rw [sizeLine_eq]; omega
theorem d_sub : OpD X (binaryOp .Sub) pSub := opd_ints0 op_sub
theorem d_div : OpD X (binaryOp .FloorDiv) pDiv := opd_ints op_fdivW fun i j R h => h
theorem d_mod : OpD X (binaryOp .Mod) pMod := opd_ints op_mod fun i j R h => h
theorem d_pow : OpD X (binaryOp .Pow) pPow := opd_ints op_pow fun i j R h => h
theorem d_lt : OpD X (compareOp .Lt) pLt := by
  intro pins s σ H x y v u Q I rx ry ⟨B, G, δ, σ', dx, dy, R, rel, bx, by', q, k⟩
  cases dx <;> cases dy <;> first | exact False.elim q | skip
  exact op_lt pins s σ H x y v u Q I rx ry ⟨_, _, bor_int bx, bor_int by', k _ H G _ q (Same.refl _) rel (Dn.bl _)⟩
theorem d_le : OpD X (compareOp .LtE) pLe := opd_bools op_le
theorem d_gt : OpD X (compareOp .Gt) pGt := opd_bools op_gt
theorem d_ge : OpD X (compareOp .GtE) pGe := opd_bools op_ge
theorem DnL.nil_iff {K : PySem.W.Frag} {G : Hp} {vs : List V} {ds : List PyData} (t : DnL K G vs ds) : vs = [] ↔ ds = [] := by
  cases t with
  | nil => simp
  | cons a b => simp
theorem d_add : OpD X (binaryOp .Add) pAdd := by
  intro pins s σ H x y v u Q I rx ry ⟨B, G, δ, σ', dx, dy, R, rel, bx, by', q, k⟩
  cases dx <;> cases dy <;> first | exact False.elim q | skip
  · exact op_add pins s σ H x y v u Q I rx ry ⟨_, _, bor_int bx, bor_int by', k _ H G _ q (Same.refl _) rel (Dn.int _)⟩
  · exact op_add_str pins s σ H x y v u Q I rx ry ⟨_, _, bor_str bx, bor_str by', million q.1, k _ H G _ q.2 (Same.refl _) rel (Dn.str _)⟩
  · obtain ⟨a, xs, rfl, ha, ta⟩ := bor_lst rel bx
    obtain ⟨b, ys, rfl, hb, tb⟩ := bor_lst rel by'
    refine op_cat pins s σ H _ _ v u Q I rx ry ⟨a, b, xs, ys, rfl, rfl, ha, hb, by rw [ta.len, tb.len]; exact million q.1, fun p np => ?_⟩
    obtain ⟨rel3, s3⟩ := rel.laid (o := .lst (xs ++ ys)) np
    exact k _ _ _ _ q.2 s3 rel3 (Dn.lst upd_same ((ta.app tb).mono s3))
  · obtain ⟨a, xs, rfl, ha, ta⟩ := bor_tupS bx
    obtain ⟨b, ys, rfl, hb, tb⟩ := bor_tupS by'
    refine op_catA pins s σ H _ _ v u Q I rx ry ⟨a, b, xs, ys, rfl, rfl, sqT_mono rel.sg (SqT.of ha), sqT_mono rel.sg (SqT.of hb), by rw [ta.len, tb.len]; exact million q.1, fun e => ?_, fun e e2 => ?_, fun e1 e2 p np => ?_⟩
    · have e' := ta.nil_iff.mp e
      subst e e'
      exact k _ H G _ q.2 (Same.refl _) rel (Dn.tup hb (by simpa using tb))
    · have e' := tb.nil_iff.mp e2
      subst e2 e'
      exact k _ H G _ q.2 (Same.refl _) rel (Dn.tup ha (by simpa using ta))
    · obtain ⟨rel3, s3⟩ := rel.laid (o := .tup (xs ++ ys)) np
      exact k _ _ _ _ q.2 s3 rel3 (Dn.tup upd_same ((ta.app tb).mono s3))
theorem DnL.rep {K : PySem.W.Frag} {G : Hp} {vs : List V} {ds : List PyData} (t : DnL K G vs ds) : ∀ n : Nat, DnL K G (List.replicate n vs).flatten (List.replicate n ds).flatten
  | 0 => .nil
  | n + 1 => by
    rw [List.replicate_succ, List.replicate_succ, List.flatten_cons, List.flatten_cons]
    exact t.app (DnL.rep t n)
theorem d_mul : OpD X (binaryOp .Mult) pMul := by
  intro pins s σ H x y v u Q I rx ry ⟨B, G, δ, σ', dx, dy, R, rel, bx, by', q, k⟩
  cases dx <;> cases dy <;> first | exact False.elim q | skip
  · rcases q.1 with c | c
    · exact op_mul pins s σ H x y v u Q I rx ry ⟨_, _, bor_int bx, bor_int by', c, k _ H G _ q.2 (Same.refl _) rel (Dn.int _)⟩
    · exact op_mulW pins s σ H x y v u Q I rx ry ⟨_, _, bor_int bx, bor_int by', c, k _ H G _ q.2 (Same.refl _) rel (Dn.int _)⟩
  · obtain ⟨a, xs, rfl, ha, ta⟩ := bor_lst rel bx
    obtain ⟨q0, q1, q2, q3⟩ := q
    refine op_rep pins s σ H _ _ v u Q I rx ry ⟨a, _, xs, rfl, bor_int by', ha, by omega, by omega, by rw [ta.len]; exact million q1, fun p np => ?_⟩
    obtain ⟨rel3, s3⟩ := rel.laid (o := .lst _) np
    exact k _ _ _ _ q3 s3 rel3 (Dn.lst upd_same ((ta.rep _).mono s3))
/-- xs + ys that is one's own -/
def pAddL : P2L := fun x y R => match x, y with
  | .list xs, .list ys => xs.length + ys.length ≤ 1000000 ∧ R (xs ++ ys)
  | _, _ => False
theorem d_addL : OpDL X (binaryOp .Add) pAddL := by
  intro pins s σ H x y v u Q I rx ry ⟨B, G, δ, σ', dx, dy, R, rel, bx, by', q, k⟩
  cases dx <;> cases dy <;> first | exact False.elim q | skip
  obtain ⟨a, xs, rfl, ha, ta⟩ := bor_lst rel bx
  obtain ⟨b, ys, rfl, hb, tb⟩ := bor_lst rel by'
  exact op_cat pins s σ H _ _ v u Q I rx ry ⟨a, b, xs, ys, rfl, rfl, ha, hb, by rw [ta.len, tb.len]; exact million q.1, fun p np => k p _ _ G _ q.2 (Same.refl _) (rel.growB np) (rel.freeB np) (ta.app tb)⟩
def pMulL : P2L := fun x y R => match x, y with
  | .list xs, .int k => 0 ≤ k ∧ xs.length * k.toNat ≤ 1000000 ∧ k < 1000000 ∧ R (List.replicate k.toNat xs).flatten
  | _, _ => False
/-- both of one plain kind: compared at once -/
def sc2 : PyData → PyData → Bool
  | .int _, .int _ => true
  | .str _, .str _ => true
  | .bool _, .bool _ => true
  | .none, .none => true
  | _, _ => false
def pEq : P2 := fun x y R => (sc2 x y = true ∨ SeqAt.shaped x = true ∧ SeqAt.shaped y = true) ∧ R (.bool (PyData.eqv x y))
def pNe : P2 := fun x y R => (sc2 x y = true ∨ SeqAt.shaped x = true ∧ SeqAt.shaped y = true) ∧ R (.bool (!PyData.eqv x y))
theorem sc2_eq {K : PySem.W.Frag} {G H : Hp} {x y : V} {dx dy : PyData} (h : sc2 dx dy = true) (bx : Bor K G H x dx) (by' : Bor K G H y dy) : scal x y = true ∧ decide (x = y) = PyData.eqv dx dy := by
  cases dx <;> cases dy <;> first | exact absurd h Bool.false_ne_true | skip
  · obtain rfl := bor_none bx
    obtain rfl := bor_none by'
    exact ⟨rfl, by simp [PyData.eqv]⟩
  · obtain rfl := bor_bool bx
    obtain rfl := bor_bool by'
    refine ⟨rfl, ?_⟩
    rw [dec_bl]; simp [PyData.eqv]
  · obtain rfl := bor_int bx
    obtain rfl := bor_int by'
    refine ⟨rfl, ?_⟩
    rw [dec_int]; simp [PyData.eqv]
  · obtain rfl := bor_str bx
    obtain rfl := bor_str by'
    refine ⟨rfl, ?_⟩
    rw [dec_str]; simp [PyData.eqv]
theorem d_eq (hu : X.A.units + 64 < cLine) : OpD X (compareOp .Eq) pEq := by
  intro pins s σ H x y v u Q I rx ry ⟨B, G, δ, σ', dx, dy, R, rel, bx, by', ⟨c, q⟩, k⟩
  rcases c with c | ⟨q1, q2⟩
  · obtain ⟨h1, h2⟩ := sc2_eq c bx by'
    refine op_eq pins s σ H x y v u Q I rx ry ⟨h1, ?_⟩
    rw [h2]
    exact k _ H G _ q (Same.refl _) rel (Dn.bl _)
  · exact op_eqD hu pins s σ H x y v u Q I rx ry ⟨dx, dy, Dn.dp _ (noDict_of_shaped q1) (bx.dn rel), Dn.dp _ (noDict_of_shaped q2) (by'.dn rel), q1, q2, k _ H G _ q (Same.refl _) rel (Dn.bl _)⟩
theorem d_ne (hu : X.A.units + 64 < cLine) : OpD X (compareOp .NotEq) pNe := by
  intro pins s σ H x y v u Q I rx ry ⟨B, G, δ, σ', dx, dy, R, rel, bx, by', ⟨c, q⟩, k⟩
  rcases c with c | ⟨q1, q2⟩
  · obtain ⟨h1, h2⟩ := sc2_eq c bx by'
    refine op_ne pins s σ H x y v u Q I rx ry ⟨h1, ?_⟩
    rw [h2]
    exact k _ H G _ q (Same.refl _) rel (Dn.bl _)
  · exact op_neD hu pins s σ H x y v u Q I rx ry ⟨dx, dy, Dn.dp _ (noDict_of_shaped q1) (bx.dn rel), Dn.dp _ (noDict_of_shaped q2) (by'.dn rel), q1, q2, k _ H G _ q (Same.refl _) rel (Dn.bl _)⟩
def isNone : PyData → Bool
  | .none => true
  | _ => false
def pIs : P2 := fun x y R => match x, y with
  | x, .none => R (.bool (isNone x))
  | .bool a, .bool b => R (.bool (decide (a = b)))
  | _, _ => False
def pIsNot : P2 := fun x y R => match x, y with
  | x, .none => R (.bool (!isNone x))
  | .bool a, .bool b => R (.bool (!decide (a = b)))
  | _, _ => False
theorem dn_non {K : PySem.W.Frag} {G : Hp} {v : V} {d : PyData} (h : Dn K G v d) : decide (v = V.non) = isNone d := by
  cases h <;> rfl
theorem d_is : OpD X (compareOp .Is) pIs := by
  intro pins s σ H x y v u Q I rx ry ⟨B, G, δ, σ', dx, dy, R, rel, bx, by', q, k⟩
  cases dy with
  | none =>
    refine op_isN pins s σ H x y v u Q I rx ry ⟨bor_none by', ?_⟩
    rw [dn_non (bx.dn rel)]
    have q' : R (.bool (isNone dx)) := by cases dx <;> exact q
    exact k _ H G _ q' (Same.refl _) rel (Dn.bl _)
  | bool b =>
    cases dx <;> first | exact False.elim q | skip
    exact op_isBl pins s σ H x y v u Q I rx ry ⟨_, _, bor_bool bx, bor_bool by', k _ H G _ q (Same.refl _) rel (Dn.bl _)⟩
  | _ => cases dx <;> exact False.elim q
theorem d_isnot : OpD X (compareOp .IsNot) pIsNot := by
  intro pins s σ H x y v u Q I rx ry ⟨B, G, δ, σ', dx, dy, R, rel, bx, by', q, k⟩
  cases dy with
  | none =>
    refine op_notN pins s σ H x y v u Q I rx ry ⟨bor_none by', ?_⟩
    rw [dn_non (bx.dn rel)]
    have q' : R (.bool (!isNone dx)) := by cases dx <;> exact q
    exact k _ H G _ q' (Same.refl _) rel (Dn.bl _)
  | bool b =>
    cases dx <;> first | exact False.elim q | skip
    exact op_notBl pins s σ H x y v u Q I rx ry ⟨_, _, bor_bool bx, bor_bool by', k _ H G _ q (Same.refl _) rel (Dn.bl _)⟩
  | _ => cases dx <;> exact False.elim q
def pIn : P2 := fun x y R => match y with
  | .list ds => SeqAt.shaped x = true ∧ SeqAt.shaped (.list ds) = true ∧ R (.bool (ds.any fun z => PyData.eqv z x))
  | .tuple ds => SeqAt.shaped x = true ∧ SeqAt.shaped (.tuple ds) = true ∧ R (.bool (ds.any fun z => PyData.eqv z x))
  | .str z => ∃ c : Nat, x = .str ⟨#[c]⟩ ∧ R (.bool (decide (c ∈ z.cps.toList)))
  | _ => False
def pNotIn : P2 := fun x y R => match y with
  | .list ds => SeqAt.shaped x = true ∧ SeqAt.shaped (.list ds) = true ∧ R (.bool (!ds.any fun z => PyData.eqv z x))
  | .tuple ds => SeqAt.shaped x = true ∧ SeqAt.shaped (.tuple ds) = true ∧ R (.bool (!ds.any fun z => PyData.eqv z x))
  | .str z => ∃ c : Nat, x = .str ⟨#[c]⟩ ∧ R (.bool (!decide (c ∈ z.cps.toList)))
  | _ => False
theorem d_in (hu : X.A.units + 65 < cLine) : OpD X (compareOp .In) pIn := by
  intro pins s σ H x y v u Q I rx ry ⟨B, G, δ, σ', dx, dy, R, rel, bx, by', q, k⟩
  cases dy with
  | list ds =>
    obtain ⟨q1, q2, q⟩ := q
    exact op_inD hu pins s σ H x y v u Q I rx ry ⟨dx, ds, Dn.dp _ (noDict_of_shaped q1) (bx.dn rel), Dn.dp _ (noDict_of_shaped q2) (by'.dn rel), q1, q2, k _ H G _ q (Same.refl _) rel (Dn.bl _)⟩
  | tuple ds =>
    obtain ⟨q1, q2, q⟩ := q
    obtain ⟨as, r1⟩ := Dp.reads I dx x v (Dn.dp _ (noDict_of_shaped q1) (bx.dn rel)) rx
    obtain ⟨bs, r2⟩ := Dp.reads I (.tuple ds) y u (Dn.dp _ (noDict_of_shaped q2) (by'.dn rel)) ry
    exact SeqAt.in_tuple_reads r2 r1 (by simpa [PyData.canLay0] using SeqAt.canLay_of_shaped q2) (SeqAt.canLay_of_shaped q1) (room_in_shaped q1 hu) ⟨.bl _, H, I, rfl, k _ H G _ q (Same.refl _) rel (Dn.bl _)⟩
  | str z =>
    obtain ⟨c, rfl, q⟩ := q
    exact op_in_sign pins s σ H x y v u Q I rx ry ⟨c, z, bor_str bx, bor_str by', k _ H G _ q (Same.refl _) rel (Dn.bl _)⟩
  | _ => exact False.elim q
def pIx : P2 := fun x y R => match x, y with
  | .list ds, .int i => ∃ z, atI ds i = some z ∧ R z
  | .tuple ds, .int i => ∃ z, atI ds i = some z ∧ R z
  | .str z, .int i => z.length ≤ 1000000 ∧ ∃ c, atI z.cps.toList i = some c ∧ R (.str ⟨#[c]⟩)
  | _, _ => False
theorem DnL.atI {K : PySem.W.Frag} {G : Hp} {vs : List V} {ds : List PyData} {i : Int} {z : PyData} (t : DnL K G vs ds) (h : L2.atI ds i = some z) : ∃ v, L2.atI vs i = some v ∧ Dn K G v z := by
  unfold L2.atI at h ⊢
  rw [t.len]
  cases e : ixN ds.length i with
  | none => rw [e] at h; cases h
  | some j => rw [e] at h; exact t.get h
theorem d_ix : IxD X pIx := by
  have hor := @ix_seq X
  intro ev es pins s σ H x y v u Q I rx ry ⟨B, G, δ, σ', dx, dy, R, rel, bx, by', q, k⟩ hsub
  cases dx <;> cases dy <;> first | exact False.elim q | skip
  · obtain ⟨q1, c, e, q⟩ := q
    exact hor ev es pins s σ H x y v u Q I rx ry (.inr (.inr ⟨_, _, c, bor_str bx, bor_int by', million q1, e, k _ H G _ q (Same.refl _) rel (Dn.str _)⟩)) hsub
  · obtain ⟨a, xs, rfl, ha, ta⟩ := bor_lst rel bx
    obtain ⟨z, e, q⟩ := q
    obtain ⟨w, e2, dw⟩ := ta.atI e
    exact hor ev es pins s σ H _ y v u Q I rx ry (.inl ⟨a, xs, _, w, rfl, bor_int by', SqL.of ha, e2, k _ H G _ q (Same.refl _) rel dw⟩) hsub
  · obtain ⟨a, xs, rfl, ha, ta⟩ := bor_tup bx
    obtain ⟨z, e, q⟩ := q
    obtain ⟨w, e2, dw⟩ := ta.atI e
    exact hor ev es pins s σ H _ y v u Q I rx ry (.inr (.inl ⟨a, xs, _, w, rfl, bor_int by', sqT_mono rel.sg ha, e2, k _ H G _ q (Same.refl _) rel dw⟩)) hsub
def cutD {α : Type} (xs : List α) (lo hi : Option Int) : List α := (xs.drop (HT.sIx xs.length 0 lo)).take (HT.sIx xs.length xs.length hi - HT.sIx xs.length 0 lo)
def pSl : P3 := fun x lo hi R => match x with
  | .list ds => R (.list (cutD ds lo hi))
  | .tuple ds => R (.tuple (cutD ds lo hi))
  | .str z => z.length ≤ 1000000 ∧ R (.str (cutS z lo hi))
  | _ => False
theorem DnL.cut {K : PySem.W.Frag} {G : Hp} {vs : List V} {ds : List PyData} {lo hi : Option Int} (t : DnL K G vs ds) : DnL K G (cutV vs lo hi) (cutD ds lo hi) := by
  unfold cutV cutD
  rw [t.len]
  exact (t.drop _).take _
theorem cutD_whole {α : Type} {xs : List α} {lo hi : Option Int} (h1 : HT.sIx xs.length 0 lo = 0) (h2 : HT.sIx xs.length xs.length hi = xs.length) : cutD xs lo hi = xs := by
  unfold cutD
  rw [h1, h2]; simp
theorem d_sl : SlR X (rOfS X.K pSl) := by
  intro pins s σ H x v vl vu lo hi sl Q I rx hs pl pu ⟨B, G, δ, σ', dx, R, rel, bx, q, k⟩
  cases dx with
  | list ds =>
    obtain ⟨a, xs, rfl, ha, ta⟩ := bor_lst rel bx
    refine sl_list pins s σ H _ v vl vu lo hi sl Q I rx hs pl pu ⟨a, xs, rfl, SqL.of ha, fun p np => ?_⟩
    obtain ⟨rel3, s3⟩ := rel.laid (o := .lst (cutV xs lo hi)) np
    exact k _ _ _ _ q s3 rel3 (Dn.lst upd_same (ta.cut.mono s3))
  | tuple ds =>
    obtain ⟨a, xs, rfl, ha, ta⟩ := bor_tupS bx
    refine sl_tupA pins s σ H _ v vl vu lo hi sl Q I rx hs pl pu ⟨a, xs, rfl, sqT_mono rel.sg (SqT.of ha), fun e => ?_, fun _ p np => ?_⟩
    · have q' : R (.tuple (cutD ds lo hi)) := q
      rw [cutD_whole (by rw [← ta.len]; exact e.1) (by rw [← ta.len]; exact e.2)] at q'
      exact k _ H G _ q' (Same.refl _) rel (Dn.tup ha ta)
    · obtain ⟨rel3, s3⟩ := rel.laid (o := .tup (cutV xs lo hi)) np
      exact k _ _ _ _ q s3 rel3 (Dn.tup upd_same (ta.cut.mono s3))
  | str z => exact sl_str pins s σ H x v vl vu lo hi sl Q I rx hs pl pu ⟨z, bor_str bx, million q.1, k _ H G _ q.2 (Same.refl _) rel (Dn.str _)⟩
  | _ => exact False.elim q
end
end DL
set_option Elab.async false
set_option linter.all false
set_option maxRecDepth 100000
set_option maxHeartbeats 4000000
namespace DL
open PySem PySem.Spec PyProof.Rows L2
variable [Tb]

section
variable {X : Cx}
theorem BorL.one {K : PySem.W.Frag} {G H : Hp} {vs : List V} {d : PyData} (h : BorL K G H vs [d]) : ∃ v, vs = [v] ∧ Bor K G H v d := by
  cases h with | cons a b => cases b; exact ⟨_, rfl, a⟩
theorem BorL.two {K : PySem.W.Frag} {G H : Hp} {vs : List V} {d e : PyData} (h : BorL K G H vs [d, e]) : ∃ v u, vs = [v, u] ∧ Bor K G H v d ∧ Bor K G H u e := by
  cases h with | cons a b => obtain ⟨u, rfl, c⟩ := b.one; exact ⟨_, _, rfl, a, c⟩
/-- a built-in of one argument -/
abbrev one (p : PyData → (PyData → Prop) → Prop) : PN := fun xs R => match xs with
  | [x] => p x R
  | _ => False
abbrev oneL (p : PyData → (List PyData → Prop) → Prop) : List PyData → (List PyData → Prop) → Prop := fun xs R => match xs with
  | [x] => p x R
  | _ => False
abbrev two (p : PyData → PyData → (PyData → Prop) → Prop) : PN := fun xs R => match xs with
  | [x, y] => p x y R
  | _ => False
def pLen : PN := one fun x R => match x with
  | .list ds => R (.int ds.length)
  | .tuple ds => R (.int ds.length)
  | .str z => z.length ≤ 1000000 ∧ R (.int z.length)
  | _ => False
theorem c_len : CallD X (.builtin "len") pLen := by
  intro pins s σ H vs us Q I r ⟨B, G, δ, σ', ds, R, rel, b, q, k⟩
  match ds, q with
  | [d], q =>
    obtain ⟨v, rfl, bd⟩ := b.one
    cases d with
    | list xs =>
      obtain ⟨a, ws, rfl, ha, ta⟩ := bor_lst rel bd
      exact call_len pins s σ H _ us Q I r ⟨_, _, rfl, .inl ⟨ws, SqL.of ha, ta.len.symm⟩, k _ H G _ q (Same.refl _) rel (Dn.int _)⟩
    | tuple xs =>
      obtain ⟨a, ws, rfl, ha, ta⟩ := bor_tup bd
      exact call_len pins s σ H _ us Q I r ⟨_, _, rfl, .inr ⟨ws, sqT_mono rel.sg ha, ta.len.symm⟩, k _ H G _ q (Same.refl _) rel (Dn.int _)⟩
    | str z =>
      obtain rfl := bor_str bd
      exact call_len pins s σ H _ us Q I r ⟨_, _, rfl, ⟨million q.1, rfl⟩, k _ H G _ q.2 (Same.refl _) rel (Dn.int _)⟩
    | _ => exact False.elim q
def pTupOf : PN := one fun x R => match x with
  | .list ds => R (.tuple ds)
  | .tuple ds => R (.tuple ds)
  | _ => False
theorem c_tup : CallD X (.type "tuple") pTupOf := by
  intro pins s σ H vs us Q I r ⟨B, G, δ, σ', ds, R, rel, b, q, k⟩
  match ds, q with
  | [d], q =>
    obtain ⟨v, rfl, bd⟩ := b.one
    cases d with
    | list xs =>
      obtain ⟨a, ws, rfl, ha, ta⟩ := bor_lst rel bd
      refine call_tuple_of pins s σ H _ us Q I r ⟨a, ws, rfl, .inl ⟨SqL.of ha, fun p np => ?_⟩⟩
      obtain ⟨rel3, s3⟩ := rel.laid (o := .tup ws) np
      exact k _ _ _ _ q s3 rel3 (Dn.tup upd_same (ta.mono s3))
    | tuple xs =>
      obtain ⟨a, ws, rfl, ha, ta⟩ := bor_tupS bd
      exact call_tuple_of pins s σ H _ us Q I r ⟨a, ws, rfl, .inr ⟨sqT_mono rel.sg (SqT.of ha), k _ H G _ q (Same.refl _) rel (Dn.tup ha ta)⟩⟩
    | _ => exact False.elim q
def pLstOf : List PyData → (List PyData → Prop) → Prop := oneL fun x R => match x with
  | .list ds => R ds
  | .tuple ds => R ds
  | _ => False
theorem c_lst : CallDL X (.type "list") pLstOf := by
  intro pins s σ H vs us Q I r ⟨B, G, δ, σ', ds, R, rel, b, q, k⟩
  match ds, q with
  | [d], q =>
    obtain ⟨v, rfl, bd⟩ := b.one
    cases d with
    | list xs =>
      obtain ⟨a, ws, rfl, ha, ta⟩ := bor_lst rel bd
      exact call_list_of pins s σ H _ us Q I r ⟨a, ws, rfl, .inl (SqL.of ha), fun p np => k p ws _ G _ q (Same.refl _) (rel.growB np) (rel.freeB np) ta⟩
    | tuple xs =>
      obtain ⟨a, ws, rfl, ha, ta⟩ := bor_tup bd
      exact call_list_of pins s σ H _ us Q I r ⟨a, ws, rfl, .inr (sqT_mono rel.sg ha), fun p np => k p ws _ G _ q (Same.refl _) (rel.growB np) (rel.freeB np) ta⟩
    | _ => exact False.elim q
def pInt : PN := one fun x R => match x with
  | .int i => R (.int i)
  | .bool b => R (.int (if b then 1 else 0))
  | .str z => ∃ n, PySem.intText? z = some n ∧ z.length ≤ 640 ∧ R (.int n)
  | _ => False
theorem c_int : CallD X (.type "int") pInt := by
  intro pins s σ H vs us Q I r ⟨B, G, δ, σ', ds, R, rel, b, q, k⟩
  match ds, q with
  | [d], q =>
    obtain ⟨v, rfl, bd⟩ := b.one
    cases d with
    | int i => obtain rfl := bor_int bd; exact call_int1 pins s σ H _ us Q I r (.inl ⟨i, rfl, k _ H G _ q (Same.refl _) rel (Dn.int _)⟩)
    | bool i => obtain rfl := bor_bool bd; exact call_int1 pins s σ H _ us Q I r (.inr ⟨i, rfl, k _ H G _ q (Same.refl _) rel (Dn.int _)⟩)
    | str z =>
      obtain rfl := bor_str bd
      obtain ⟨n, q1, q2, q3⟩ := q
      exact call_int_str pins s σ H _ us Q I r ⟨z, n, rfl, q1, q2, k _ H G _ q3 (Same.refl _) rel (Dn.int _)⟩
    | _ => exact False.elim q
def pBool : PN := one fun x R => match x with
  | .int i => R (.bool (i != 0))
  | .bool b => R (.bool b)
  | _ => False
def pStr : PN := one fun x R => match x with
  | .int i => i.natAbs.log2 < 1920 ∧ R (.str (toString i))
  | .str z => R (.str z)
  | _ => False
def pAbs : PN := one fun x R => match x with
  | .int i => R (.int (if i < 0 then -i else i))
  | _ => False
theorem c_abs : CallD X (.builtin "abs") pAbs := by
  intro pins s σ H vs us Q I r ⟨B, G, δ, σ', ds, R, rel, b, q, k⟩
  match ds, q with
  | [d], q =>
    obtain ⟨v, rfl, bd⟩ := b.one
    cases d with
    | int i => obtain rfl := bor_int bd; exact call_abs pins s σ H _ us Q I r ⟨i, rfl, k _ H G _ q (Same.refl _) rel (Dn.int _)⟩
    | _ => exact False.elim q
def pMax2 : PN := two fun x y R => match x, y with
  | .int i, .int j => R (.int (if j > i then j else i))
  | _, _ => False
def pMin2 : PN := two fun x y R => match x, y with
  | .int i, .int j => R (.int (if j < i then j else i))
  | _, _ => False
theorem c_max2 (hc : X.calm = true) : CallD X (.builtin "max") pMax2 := by
  intro pins s σ H vs us Q I r ⟨B, G, δ, σ', ds, R, rel, b, q, k⟩
  match ds, q with
  | [d, e], q =>
    obtain ⟨v, u, rfl, bd, be⟩ := b.two
    cases d <;> cases e <;> first | exact False.elim q | skip
    obtain rfl := bor_int bd
    obtain rfl := bor_int be
    exact call_max2 hc pins s σ H _ us Q I r ⟨_, _, rfl, k _ H G _ q (Same.refl _) rel (Dn.int _)⟩
theorem c_min2 (hc : X.calm = true) : CallD X (.builtin "min") pMin2 := by
  intro pins s σ H vs us Q I r ⟨B, G, δ, σ', ds, R, rel, b, q, k⟩
  match ds, q with
  | [d, e], q =>
    obtain ⟨v, u, rfl, bd, be⟩ := b.two
    cases d <;> cases e <;> first | exact False.elim q | skip
    obtain rfl := bor_int bd
    obtain rfl := bor_int be
    exact call_min2 hc pins s σ H _ us Q I r ⟨_, _, rfl, k _ H G _ q (Same.refl _) rel (Dn.int _)⟩
/-- sum, max, min, sorted of ints -/
def pSum : PN := one fun x R => match x with
  | .list ds => ∃ ns : List Int, ds = ns.map PyData.int ∧ R (.int ns.sum)
  | _ => False
def pMax : PN := one fun x R => match x with
  | .list ds => ∃ ns : List Int, ds = ns.map PyData.int ∧ 0 < ns.length ∧ ∀ m, m ∈ ns → (∀ y ∈ ns, y ≤ m) → R (.int m)
  | _ => False
def pMin : PN := one fun x R => match x with
  | .list ds => ∃ ns : List Int, ds = ns.map PyData.int ∧ 0 < ns.length ∧ ∀ m, m ∈ ns → (∀ y ∈ ns, m ≤ y) → R (.int m)
  | _ => False
/-- all, any of a list of truth values -/
def pAll : PN := one fun x R => match x with
  | .list ds => ∃ bs : List Bool, ds = bs.map PyData.bool ∧ R (.bool (bs.all id))
  | _ => False
def pAny : PN := one fun x R => match x with
  | .list ds => ∃ bs : List Bool, ds = bs.map PyData.bool ∧ R (.bool (bs.any id))
  | _ => False
/-- repr of data without dicts -/
def pRepr : PN := one fun x R => x.showable = true ∧ x.hasDict = false ∧ x.depth ≤ 60 ∧ x.shown.length ≤ 16000000 ∧ R (.str x.shown)
def tyName : PyData → String
  | .none => "NoneType" | .bool _ => "bool" | .int _ => "int" | .str _ => "str" | .list _ => "list" | .tuple _ => "tuple" | .dict [] => "dict" | .dict (_ :: _) => "object"
theorem dn_tyX {K : PySem.W.Frag} {H : Hp} {v : V} {d : PyData} (h : Dn K H v d) (hd : tyName d ≠ "object") : TyX K H v (.type (tyName d)) := by
  cases h with
  | non => exact .base .non
  | bl b => exact .base (.bl b)
  | int i => exact .base (.int i)
  | str x => exact .base (.str x)
  | lst h t => exact .base (.lst h)
  | tup h t => exact .base (.tup h)
  | dic h n => exact .base (.dK h)
  | ob h k e t => exact absurd rfl hd
/-- an object's type -/
theorem dn_tyO {K : PySem.W.Frag} {H : Hp} {v : V} {d : PyData} (h : Dn K H v d) (hd : tyName d = "object") : ∃ n C, ObjK K n C ∧ TyX K H v (.ref C) := by
  cases h with
  | ob h k e t => exact ⟨_, _, k, .base (.ins h k.cl k.ha k.hn k.tk k.mr)⟩
  | _ => exact absurd hd (by simp [tyName])
def isTy (T : String) (d : PyData) : Bool := tyName d == T || (T == "int" && tyName d == "bool")
def wIsi (T : String) (w : DE) : DE := fun δ R => w δ fun o δ1 => use o δ1 fun x => R (.d (.bool (isTy T x))) δ1
theorem kit_isTy {K : PySem.W.Frag} {T : String} (hT : T = "int" ∨ T = "bool" ∨ T = "str" ∨ T = "tuple" ∨ T = "list" ∨ T = "dict") (d : PyData) (hd : tyName d ≠ "object") : PySem.W.kitOne K (.type (tyName d)) (.type T) = some (isTy T d) := by
  apply kit_ty
  have all : ∀ n ∈ ["NoneType", "bool", "int", "str", "list", "tuple", "dict"], ∀ T ∈ ["int", "bool", "str", "tuple", "list", "dict"], kitB n T = some (n == T || (T == "int" && n == "bool")) := by decide +kernel
  exact all (tyName d) (by unfold tyName at hd ⊢; split <;> simp_all) T (by simpa using hT)
theorem je_isi {T : String} {e : Expr} {w : DE} {x t : Str} {px pt pos : Pos} (hT : T = "int" ∨ T = "bool" ∨ T = "str" ∨ T = "tuple" ∨ T = "list" ∨ T = "dict") (hg : Gl X x) (hm : X.mg x = none) (hv : bootBuiltins x = some (.builtin "isinstance")) (ht : Gl X t) (hmt : X.mg t = none) (hvt : bootBuiltins t = some (.type T)) (he : JE X e w)
    (hn : x ≠ "__name__" := by decide) (hdb : (x == ("__debug__" : Str)) = false := by decide) (hn2 : t ≠ "__name__" := by decide) (hdb2 : (t == ("__debug__" : Str)) = false := by decide)
    (hs1 : starEach [e, .Name t pt] X.env = (false, eval e X.env) :: starEach [.Name t pt] X.env := by rfl) (hs2 : starEach [.Name t pt] X.env = (false, eval (.Name t pt) X.env) :: starEach [] X.env := by rfl)
    (hpl : (backTo pos (starEach [.Name t pt] X.env)).any (·.1) = false := by rfl) :
    JE X (.Call (.Name x px) [e, .Name t pt] [] pos) (wIsi T w) :=
  pe_le (pe_callB call_isi hg hm hv (pa_cons he (pa_cons (pe_bltn (v := .ty T) ht hmt hvt rfl hn2 hdb2) pa_nil hs2) hs1) hn hdb hs1 hpl) fun pins s σ H Q I ⟨B, G, δ, R, rel, hw, k⟩ =>
    ⟨B, G, δ, _, rel, hw, fun v H1 G1 o δ1 r1 s1 rel1 ok1 => by
      obtain ⟨d, q, bd⟩ := use_ok rel1 ok1 r1
      by_cases hd : tyName d = "object"
      · obtain ⟨n, C, ok, ty⟩ := dn_tyO (bd.dn rel1) hd
        have no : isTy T d = false := by
          unfold isTy
          rw [hd]
          rcases hT with rfl | rfl | rfl | rfl | rfl | rfl <;> decide
        rw [no] at q
        exact ⟨v, .ty T, _, _, _, rfl, ClsV.ty T, ty, ok.ty T (by rcases hT with rfl | rfl | rfl | rfl | rfl | rfl <;> decide), k _ H1 G1 _ δ1 q s1 rel1 (Dn.bl _)⟩
      · exact ⟨v, .ty T, _, _, _, rfl, ClsV.ty T, dn_tyX (bd.dn rel1) hd, kit_isTy hT d hd, k _ H1 G1 _ δ1 q s1 rel1 (Dn.bl _)⟩⟩
def wRevL (w : DE) : DE := fun δ R => w δ fun o δ1 => use o δ1 fun x => ∃ ds, x = .list ds ∧ R (.d (.list ds.reverse)) δ1
theorem je_glob {x : Str} {v : V} {u : Value} {d : PyData} {pos : Pos} (hg : Gl X x) (hm : X.mg x = some u) (r : RelV v u) (hd : ∀ K G, Dn K G v d) (hdb : (x == ("__debug__" : Str)) = false := by decide) : JE X (.Name x pos) (wC d) := je_c (pe_glob hg hm r hdb) hd
end
end DL
set_option Elab.async false
set_option linter.all false
set_option maxRecDepth 100000
set_option maxHeartbeats 4000000
namespace DL
open PySem PySem.Spec PyProof.Rows L2
variable [Tb]

def bov (B H : Hp) (l : List Addr) : Hp := fun a => if a ∈ l then H a else B a
abbrev DM := DS → (Cell → DS → Prop) → Prop
abbrev DMs := DS → (List Cell → DS → Prop) → Prop
def fps (cs : List Cell) : List Addr := cs.flatMap Cell.fp
inductive CellsOk (K : PySem.W.Frag) (G H : Hp) : List Cell → List V → Prop
  | nil : CellsOk K G H [] []
  | cons {c : Cell} {v : V} {cs : List Cell} {vs : List V} (h : CellOk K G H c (some v)) (hd : ∀ a ∈ c.fp, a ∉ fps cs) (t : CellsOk K G H cs vs) : CellsOk K G H (c :: cs) (v :: vs)
def upMs (K : PySem.W.Frag) (w : DMs) : TA := fun σ H Q => ∃ B G δ R, Rel K B G δ σ H ∧ w δ R ∧ ∀ vs H' G' cs δ', R cs δ' → Same G G' → Rel K (bov B H' (fps cs)) G' δ' σ H' → (∀ a ∈ fps cs, B a = none) → CellsOk K G' H' cs vs → Q vs H'
def upM (K : PySem.W.Frag) (w : DM) : TE := fun σ H Q => ∃ B G δ R, Rel K B G δ σ H ∧ w δ R ∧ ∀ v H' G' c δ', R c δ' → Same G G' → Rel K (bov B H' c.fp) G' δ' σ H' → (∀ a ∈ c.fp, B a = none) → CellOk K G' H' c (some v) → Q v H'
abbrev JM (X : Cx) (e : Expr) (w : DM) : Prop := PE X e (upM X.K w)
abbrev JMs (X : Cx) (es : List Expr) (w : DMs) : Prop := PA X es (upMs X.K w)
theorem bov_nil {B H : Hp} : bov B H [] = B := by funext a; simp [bov]
section
variable {X : Cx} {e : Expr} {es : List Expr} {pos : Pos}
def mE (w : DE) : DM := fun δ R => w δ fun o δ1 => lk o δ1 fun x δ2 => R (.d x) δ2
def mL (w : DL) : DM := fun δ R => w δ fun xs δ1 => ∀ a, R (.ol a xs) δ1
theorem jm_e {w : DE} (h : JE X e w) : JM X e (mE w) := pe_le h fun pins s σ H Q I ⟨B, G, δ, R, rel, hw, k⟩ => ⟨B, G, δ, _, rel, hw, fun v H1 G1 o δ1 r1 s1 rel1 ok1 => by
  obtain ⟨G2, δ2, x, q, s2, rel2, dn⟩ := lk_ok rel1 ok1 r1
  exact k v H1 G2 (.d x) δ2 q (s1.trans s2) (by show Rel X.K (bov B H1 []) G2 δ2 σ H1; rw [bov_nil]; exact rel2) (fun a m => nomatch m) ⟨v, rfl, dn⟩⟩
theorem jm_l {w : DL} (h : JL X e w) : JM X e (mL w) := pe_le h fun pins s σ H Q I ⟨B, G, δ, R, rel, hw, k⟩ => ⟨B, G, δ, _, rel, hw, fun a vs H1 G1 xs δ1 r1 s1 rel1 hB t => by
  have ha : H1 a = some (.lst vs) := rel1.sb _ _ upd_same
  have e : bov B H1 [a] = upd B a (.lst vs) := by
    funext b
    unfold bov upd
    by_cases hb : b = a
    · subst hb; simp [ha]
    · simp [hb]
  exact k (.ref a) H1 G1 (.ol a xs) δ1 (r1 a) s1 (by show Rel X.K (bov B H1 [a]) G1 δ1 σ H1; rw [e]; exact rel1) (fun b m => by rw [List.mem_singleton.mp m]; exact hB) ⟨rfl, vs, ha, t⟩⟩
def msNil : DMs := fun δ R => R [] δ
def msCons (w : DM) (r : DMs) : DMs := fun δ R => w δ fun c δ1 => r δ1 fun cs δ2 => R (c :: cs) δ2
theorem jms_nil : JMs X [] msNil := pa_le pa_nil fun pins s σ H Q I ⟨B, G, δ, R, rel, hw, k⟩ => k [] H G [] δ hw (Same.refl _) (by show Rel X.K (bov B H []) G δ σ H; rw [bov_nil]; exact rel) (fun a m => nomatch m) .nil
theorem jms_cons {w : DM} {r : DMs} (ha : JM X e w) (hr : JMs X es r) (hs : starEach (e :: es) X.env = (false, eval e X.env) :: starEach es X.env := by rfl) : JMs X (e :: es) (msCons w r) :=
  pa_le (pa_cons ha hr hs) fun pins s σ H Q I ⟨B, G, δ, R, rel, hw, k⟩ =>
    ⟨B, G, δ, _, rel, hw, fun v H1 G1 c δ1 r1 s1 rel1 hB1 ok1 => ⟨bov B H1 c.fp, G1, δ1, _, rel1, r1, fun vs H2 G2 cs δ2 r2 s2 rel2 hB2 ok2 => by
      have off : ∀ a ∈ c.fp, a ∉ fps cs := fun a m m2 => by
        have z := hB2 a m2
        unfold bov at z
        rw [if_pos m] at z
        obtain ⟨o, eo⟩ := cell_tr (K := X.K) (G := G1) ok1 m
        rw [eo] at z; cases z
      have same : ∀ a ∈ c.fp, H2 a = H1 a := fun a m => by
        obtain ⟨o, eo⟩ := cell_tr (K := X.K) (G := G1) ok1 m
        have z : bov (bov B H1 c.fp) H2 (fps cs) a = some o := by
          unfold bov
          rw [if_neg (off a m), if_pos m]; exact eo
        rw [rel2.sb _ _ z, eo]
      have eb : bov (bov B H1 c.fp) H2 (fps cs) = bov B H2 (fps (c :: cs)) := by
        funext a
        unfold bov
        by_cases h1 : a ∈ fps cs
        · have h3 : a ∈ fps (c :: cs) := by unfold fps; rw [List.flatMap_cons]; exact List.mem_append_right _ h1
          rw [if_pos h1, if_pos h3]
        · by_cases h2 : a ∈ c.fp
          · have h3 : a ∈ fps (c :: cs) := by unfold fps; rw [List.flatMap_cons]; exact List.mem_append_left _ h2
            rw [if_neg h1, if_pos h2, if_pos h3, same a h2]
          · have h3 : a ∉ fps (c :: cs) := by
              unfold fps; rw [List.flatMap_cons]; intro m
              rcases List.mem_append.mp m with m | m
              · exact h2 m
              · exact h1 m
            rw [if_neg h1, if_neg h2, if_neg h3]
      refine k (v :: vs) H2 G2 (c :: cs) δ2 r2 (s1.trans s2) (eb ▸ rel2) (fun a m => ?_) (.cons (ok1.stay s2 same) off ok2)
      unfold fps at m
      rw [List.flatMap_cons] at m
      rcases List.mem_append.mp m with m | m
      · exact hB1 a m
      · have z := hB2 a m
        unfold bov at z
        split at z
        · rename_i hm
          exact absurd m (off a hm)
        · exact z⟩⟩
end

section
variable {K : PySem.W.Frag} {B G H : Hp} {δ : DS} {σ : L2.St}
theorem Rel.store {c : Cell} {v : V} {i : Nat} {l : List Addr} (R : Rel K (bov B H (c.fp ++ l)) G δ σ H) (hB : ∀ a ∈ c.fp, B a = none) (hl : ∀ a ∈ c.fp, a ∉ l) (ok : CellOk K G H c (some v)) : Rel K (bov B H l) G (δ.set i c) (σ.set i (some v)) H := by
  have tr : ∀ a ∈ c.fp, ∃ o, H a = some o := fun a m => cell_tr ok m
  have bg : ∀ a ∈ c.fp, G a = none := fun a m => by
    rcases R.dj a with z | z
    · exact z
    · obtain ⟨o, eo⟩ := tr a m
      unfold bov at z
      rw [if_pos (List.mem_append_left _ m), eo] at z; cases z
  have bn : ∀ a ∈ c.fp, bov B H l a = none := fun a m => by
    unfold bov; rw [if_neg (hl a m)]; exact hB a m
  have sub : Same (bov B H l) H := fun a o z => by
    unfold bov at z
    split at z
    · exact z
    · by_cases m : a ∈ c.fp
      · rw [hB a m] at z; cases z
      · refine R.sb a o ?_
        unfold bov
        split
        · rename_i hm
          rcases List.mem_append.mp hm with q | q
          · exact absurd q m
          · rename_i hn; exact absurd q hn
        · exact z
  have R' : Rel K (bov B H l) G δ σ H := by
    refine ⟨R.len, R.sg, sub, fun a => ?_, R.ok, R.ap, fun i c' a e m => ?_, ⟨R.tt.t, ⟨fun a o e => ?_, R.tt.n.g⟩⟩⟩
    · rcases R.dj a with z | z
      · exact .inl z
      · by_cases m : a ∈ c.fp
        · exact .inr (bn a m)
        · refine .inr ?_
          unfold bov at z ⊢
          split
          · rename_i hm
            rw [if_pos (List.mem_append_right _ hm)] at z; exact z
          · rename_i hm
            rw [if_neg] at z
            · exact z
            · intro q
              rcases List.mem_append.mp q with q | q
              · exact m q
              · exact hm q
    · obtain ⟨f1, f2⟩ := R.fr i c' a e m
      refine ⟨f1, ?_⟩
      by_cases m2 : a ∈ c.fp
      · exact bn a m2
      · unfold bov at f2 ⊢
        split
        · rename_i hm
          rw [if_pos (List.mem_append_right _ hm)] at f2; exact f2
        · rename_i hm
          rw [if_neg] at f2
          · exact f2
          · intro q
            rcases List.mem_append.mp q with q | q
            · exact m2 q
            · exact hm q
    · unfold bov at e
      split at e
      · rename_i hm
        exact R.tt.n.b a o (by unfold bov; rw [if_pos (List.mem_append_right _ hm)]; exact e)
      · rename_i hm
        by_cases m2 : a ∈ c.fp
        · exact absurd e (by rw [hB a m2]; simp)
        · refine R.tt.n.b a o ?_
          unfold bov
          rw [if_neg fun q => (List.mem_append.mp q).elim m2 hm]
          exact e
  refine R'.set ok fun a m => ⟨⟨bg a m, bn a m⟩, fun j c' hj e m' => ?_⟩
  obtain ⟨_, f2⟩ := R.fr j c' a e m'
  obtain ⟨o, eo⟩ := tr a m
  unfold bov at f2
  rw [if_pos (List.mem_append_left _ m), eo] at f2; cases f2
end

structure DEnds where
  nx : DS → Prop
  rt : PyData → DS → Prop
  bk : DS → Prop := fun _ => False
  ct : DS → Prop := fun _ => False
abbrev DTS := DEnds → DS → Prop
structure EndsOk (K : PySem.W.Frag) (B G : Hp) (E : DEnds) (D : Ends) : Prop where
  nx : ∀ σ' H' G' δ', E.nx δ' → Same G G' → Rel K B G' δ' σ' H' → D.nx σ' H'
  rt : ∀ v σ' H' G' x δ', E.rt x δ' → Same G G' → Rel K B G' δ' σ' H' → Dn K G' v x → D.rt v H'
  bk : ∀ σ' H' G' δ', E.bk δ' → Same G G' → Rel K B G' δ' σ' H' → D.bk σ' H'
  ct : ∀ σ' H' G' δ', E.ct δ' → Same G G' → Rel K B G' δ' σ' H' → D.ct σ' H'
theorem EndsOk.mono {K : PySem.W.Frag} {B G G' : Hp} {E : DEnds} {D : Ends} (h : EndsOk K B G E D) (s : Same G G') : EndsOk K B G' E D :=
  ⟨fun σ' H' G2 δ' r s2 => h.nx σ' H' G2 δ' r (s.trans s2), fun v σ' H' G2 x δ' r s2 => h.rt v σ' H' G2 x δ' r (s.trans s2), fun σ' H' G2 δ' r s2 => h.bk σ' H' G2 δ' r (s.trans s2), fun σ' H' G2 δ' r s2 => h.ct σ' H' G2 δ' r (s.trans s2)⟩
def upS (K : PySem.W.Frag) (w : DTS) : TS := fun D σ H => ∃ B G δ E, Rel K B G δ σ H ∧ w E δ ∧ EndsOk K B G E D
abbrev JS (X : Cx) (st : Stmt) (w : DTS) : Prop := PS X st (upS X.K w)
abbrev JSs (X : Cx) (st : List Stmt) (w : DTS) : Prop := PSs X st (upS X.K w)
section
variable {X : Cx} {st : Stmt} {rest : List Stmt} {e : Expr} {pos : Pos}
theorem ps_le {t t' : TS} (h : PS X st t) (l : ∀ pins s σ H D, Inv X pins σ H s → t' D σ H → t D σ H) : PS X st t' := ⟨fun pins s σ H D I q => h.run pins s σ H D I (l pins s σ H D I q)⟩
theorem pss_le {t t' : TS} (h : PSs X rest t) (l : ∀ pins s σ H D, Inv X pins σ H s → t' D σ H → t D σ H) : PSs X rest t' := ⟨fun pins s σ H D I q => h.run pins s σ H D I (l pins s σ H D I q)⟩
def wNext : DTS := fun E δ => E.nx δ
def wSeq (t u : DTS) : DTS := fun E δ => t { E with nx := u E } δ
theorem jss_nil : JSs X [] wNext := pss_le pss_nil fun pins s σ H D I ⟨B, G, δ, E, rel, hw, k⟩ => k.nx σ H G δ hw (Same.refl _) rel
theorem jss_cons {t u : DTS} (h1 : JS X st t) (h2 : JSs X rest u) : JSs X (st :: rest) (wSeq t u) := pss_le (pss_cons h1 h2) fun pins s σ H D I ⟨B, G, δ, E, rel, hw, k⟩ =>
  ⟨B, G, δ, _, rel, hw, ⟨fun σ' H' G' δ' r s1 rel1 => ⟨B, G', δ', E, rel1, r, k.mono s1⟩, k.rt, k.bk, k.ct⟩⟩
theorem jss_one {t : DTS} (h : JS X st t) : JSs X [st] t := pss_one h
def wBrk : DTS := fun E δ => E.bk δ
def wCnt : DTS := fun E δ => E.ct δ
def wRet (w : DE) : DTS := fun E δ => w δ fun o δ1 => lk o δ1 fun x δ2 => E.rt x δ2
theorem js_ret {w : DE} (h : JE X e w) : JS X (.Return (some e) pos) (wRet w) := ps_le (ps_ret h) fun pins s σ H D I ⟨B, G, δ, E, rel, hw, k⟩ => ⟨B, G, δ, _, rel, hw, fun v H1 G1 o δ1 r1 s1 rel1 ok1 => by
  obtain ⟨G2, δ2, x, q, s2, rel2, dn⟩ := lk_ok rel1 ok1 r1
  exact k.rt v σ H1 G2 x δ2 q (s1.trans s2) rel2 dn⟩
def wRetN : DTS := fun E δ => E.rt .none δ
def wIf (c : DT) (t u : DTS) : DTS := fun E δ => c δ fun b δ1 => if b = true then t E δ1 else u E δ1
theorem js_if {c : Expr} {p q : List Stmt} {tc : DT} {t u : DTS} (hc : JT X c tc) (hp : JSs X p t) (hq : JSs X q u) : JS X (.If c p q pos) (wIf tc t u) := ps_le (ps_if hc hp hq) fun pins s σ H D I ⟨B, G, δ, E, rel, hw, k⟩ => ⟨B, G, δ, _, rel, hw, fun b H1 G1 δ1 r1 s1 rel1 => by
  cases b with
  | true => rw [if_pos rfl] at r1 ⊢; exact ⟨B, G1, δ1, E, rel1, r1, k.mono s1⟩
  | false => rw [if_neg Bool.false_ne_true] at r1 ⊢; exact ⟨B, G1, δ1, E, rel1, r1, k.mono s1⟩⟩
/-- a statement or block that is never come to -/
def wNever : DTS := fun _ _ => False
theorem js_never : JS X st wNever := ps_le ps_never fun pins s σ H D I ⟨B, G, δ, E, rel, hw, k⟩ => hw.elim
def wDrop (w : DE) : DTS := fun E δ => w δ fun _ δ1 => E.nx δ1
def wSet (i : Nat) (w : DM) : DTS := fun E δ => w δ fun c δ1 => E.nx (δ1.set i c)
theorem js_set {i : Nat} {x : Str} {w : DM} {pos' : Pos} (hN : X.N.Nodup) (hi : X.N[i]? = some x) (hx : Loc X.env.scope x) (he : JM X e w) (hs : swapsWith e (some (.Name x pos')) pos.line X.env = pure false := by rfl) (hf : X.fn x = true ∨ X.env.scope.names.lookup x = some .local := by first | exact .inl rfl | exact .inr rfl | assumption) :
    JS X (.Assign [.Name x pos'] e pos) (wSet i w) := ps_le (ps_set hN hi hx he hs hf) fun pins s σ H D I ⟨B, G, δ, E, rel, hw, k⟩ => ⟨B, G, δ, _, rel, hw, fun v H1 G1 c δ1 r1 s1 rel1 hB ok1 => by
  have R2 := Rel.store (i := i) (l := []) (by rw [List.append_nil]; exact rel1) hB (fun _ _ m => nomatch m) ok1
  rw [bov_nil] at R2
  exact k.nx _ H1 G1 _ r1 s1 R2⟩
/-- a, b = e1, e2 -/
def wPar2 (i j : Nat) (w : DMs) : DTS := fun E δ => w δ fun cs δ1 => ∃ c d, cs = [c, d] ∧ E.nx ((δ1.set i c).set j d)
theorem js_par2 {i j : Nat} {x y : Str} {a b : Expr} {w : DMs} {px py pt : Pos} {kt k2 pt2} (hc : X.calm = true) (hN : X.N.Nodup) (hi : X.N[i]? = some x) (hj : X.N[j]? = some y) (hij : i ≠ j) (hx : X.env.scope.names.lookup x = some .local) (hy : X.env.scope.names.lookup y = some .local) (ha : JMs X [a, b] w)
    (hw : swappedStores [.Tuple [.Name x px, .Name y py] kt pt] (.Tuple [a, b] k2 pt2) X.env = pure (some [x, y]) := by rfl) (hs : swapsWithSole [.Tuple [.Name x px, .Name y py] kt pt] (.Tuple [a, b] k2 pt2) pos.line X.env = pure false := by rfl) :
    JS X (.Assign [.Tuple [.Name x px, .Name y py] kt pt] (.Tuple [a, b] k2 pt2) pos) (wPar2 i j w) := ps_le (ps_par hc hN hi hj hij hx hy ha hw hs) fun pins s σ H D I ⟨B, G, δ, E, rel, hw, k⟩ => ⟨B, G, δ, _, rel, hw, fun vs H1 G1 cs δ1 r1 s1 rel1 hB ok1 => by
  obtain ⟨c, d, rfl, q⟩ := r1
  cases ok1 with
  | cons h1 d1 t1 =>
    cases t1 with
    | cons h2 d2 t2 =>
      cases t2
      rename_i v u
      refine ⟨v, u, rfl, ?_⟩
      have e : fps [c, d] = c.fp ++ (d.fp ++ []) := by simp [fps]
      rw [e] at rel1
      have R2 := Rel.store (i := i) rel1 (fun a m => hB a (by simp [fps, m])) (fun a m => by have := d1 a m; simpa [fps] using this) h1
      have R3 := Rel.store (i := j) R2 (fun a m => hB a (by simp [fps, m])) (fun a m z => nomatch z) h2
      rw [bov_nil] at R3
      exact k.nx _ H1 G1 _ q s1 R3⟩
/-- x op= e -/
def wAug (i : Nat) (p : P2) (w : DE) : DTS := fun E δ => ∃ x, δ[i]? = some (.d x) ∧ w δ fun o δ1 => use o δ1 fun y => p x y fun z => E.nx (δ1.set i (.d z))
theorem js_aug {i : Nat} {x : Str} {w : DE} {op : Operator} {p : P2} {pos' : Pos} (hN : X.N.Nodup) (hi : X.N[i]? = some x) (hx : Loc X.env.scope x) (he : JE X e w) (ho : OpD X (inplaceOp op) p) (hf : X.fn x = true ∨ X.env.scope.names.lookup x = some .local := by first | exact .inl rfl | exact .inr rfl | assumption) :
    JS X (.AugAssign (.Name x pos') op e pos) (wAug i p w) := ps_le (ps_aug hN hi hx he (ti := rOf X.K p) ho hf) fun pins s σ H D I ⟨B, G, δ, E, rel, ⟨d, hd, hw⟩, k⟩ => by
  obtain ⟨o, hσ, v, rfl, dv⟩ := rel.at hd
  refine ⟨v, hσ, B, G, δ, _, rel, hw, fun u H1 G1 o δ1 r1 s1 rel1 ok1 => ?_⟩
  obtain ⟨y, q, by'⟩ := use_ok rel1 ok1 r1
  exact ⟨B, G1, δ1, σ, d, y, _, rel1, .inl (dv.mono s1), by', q, fun z H2 G2 dz rz s2 rel2 dnz => k.nx _ H2 G2 _ rz (s1.trans s2) (rel2.setD dnz)⟩
end
end DL
set_option Elab.async false
set_option linter.all false
set_option maxRecDepth 100000
set_option maxHeartbeats 4000000
namespace DL
open PySem PySem.Spec PyProof.Rows L2
variable [Tb]

abbrev DTG := PyData → DS → (DS → Prop) → Prop
abbrev DTGs := List PyData → DS → (DS → Prop) → Prop
/-- only the slots ts are stored -/
def Only (σ σ' : L2.St) (ts : List Nat) : Prop := ∀ vs : List Nat, (∀ t ∈ ts, t ∈ vs) → wipe σ' vs = wipe σ vs
theorem wipe_set {σ : L2.St} {i : Nat} {o : Option V} : ∀ {vs : List Nat}, i ∈ vs → wipe (σ.set i o) vs = wipe σ vs := by
  intro vs
  induction vs with
  | nil => intro h; cases h
  | cons v vs ih =>
    intro h
    unfold wipe
    by_cases hi : i ∈ vs
    · rw [ih hi]
    · have e : i = v := by
        rcases List.mem_cons.mp h with z | z
        · exact z
        · exact absurd z hi
      subst e
      have out : ∀ (σ : L2.St) (ws : List Nat), i ∉ ws → wipe (σ.set i o) ws = (wipe σ ws).set i o := by
        intro σ ws
        induction ws with
        | nil => intro _; rfl
        | cons w ws ih2 =>
          intro hw
          unfold wipe
          rw [ih2 (fun z => hw (List.mem_cons_of_mem _ z)), List.set_comm _ _ (fun z => hw (by rw [z]; exact List.mem_cons_self ..))]
      rw [out σ vs hi, List.set_set]
theorem Only.refl (σ : L2.St) (ts : List Nat) : Only σ σ ts := fun _ _ => rfl
theorem Only.trans {σ σ1 σ2 : L2.St} {ts us : List Nat} (a : Only σ σ1 ts) (b : Only σ1 σ2 us) : Only σ σ2 (ts ++ us) := fun vs h =>
  (b vs fun t m => h t (List.mem_append_right _ m)).trans (a vs fun t m => h t (List.mem_append_left _ m))
def upG (K : PySem.W.Frag) (ts : List Nat) (g : DTG) : TG := fun v σ H Q => ∃ B G δ x R, Rel K B G δ σ H ∧ Dn K G v x ∧ g x δ R ∧ ∀ σ' H' G' δ', R δ' → Same G G' → Rel K B G' δ' σ' H' → Only σ σ' ts → Q σ' H'
def upGs (K : PySem.W.Frag) (ts : List Nat) (g : DTGs) : TGs := fun vs σ H Q => ∃ B G δ xs R, Rel K B G δ σ H ∧ DnL K G vs xs ∧ g xs δ R ∧ ∀ σ' H' G' δ', R δ' → Same G G' → Rel K B G' δ' σ' H' → Only σ σ' ts → Q σ' H'
abbrev JG (X : Cx) (tg : Expr) (ts : List Nat) (g : DTG) : Prop := PG X tg (upG X.K ts g)
abbrev JGs (X : Cx) (tg : List Expr) (ts : List Nat) (g : DTGs) : Prop := PGs X tg (upGs X.K ts g)
def gN (i : Nat) : DTG := fun x δ R => R (δ.set i (.d x))
def gsNil : DTGs := fun xs δ R => match xs with
  | [] => R δ
  | _ => False
def gsCons (g : DTG) (r : DTGs) : DTGs := fun xs δ R => match xs with
  | x :: xs => g x δ fun δ1 => r xs δ1 R
  | [] => False
def gT (r : DTGs) : DTG := fun x δ R => match x with
  | .tuple xs => r xs δ R
  | _ => False
section
variable {X : Cx} {pos : Pos}
theorem pg_le {tg : Expr} {t t' : TG} (h : PG X tg t) (l : ∀ pins s v σ H Q, Inv X pins σ H s → t' v σ H Q → t v σ H Q) : PG X tg t' := ⟨fun pins s σ H v u Q I r q => h.run pins s σ H v u Q I r (l pins s v σ H Q I q)⟩
theorem pgs_le {tg : List Expr} {t t' : TGs} (h : PGs X tg t) (l : ∀ pins s v σ H Q, Inv X pins σ H s → t' v σ H Q → t v σ H Q) : PGs X tg t' := ⟨fun pins s σ H v u Q I r q => h.run pins s σ H v u Q I r (l pins s v σ H Q I q)⟩
theorem jg_name {i : Nat} {x : Str} (hN : X.N.Nodup) (hi : X.N[i]? = some x) (hx : Loc X.env.scope x) (hf : X.fn x = true ∨ X.env.scope.names.lookup x = some .local := by first | exact .inl rfl | exact .inr rfl | assumption) : JG X (.Name x pos) [i] (gN i) :=
  pg_le (pg_name hN hi hx hf) fun pins s v σ H Q I ⟨B, G, δ, d, R, rel, dn, hw, k⟩ => k _ H G _ hw (Same.refl _) (rel.setD dn) fun vs h => wipe_set (h i (List.mem_singleton.mpr rfl))
theorem jgs_nil : JGs X [] [] gsNil := pgs_le pgs_nil fun pins s v σ H Q I ⟨B, G, δ, d, R, rel, dn, hw, k⟩ => by
  cases dn with
  | nil => exact ⟨rfl, k σ H G δ hw (Same.refl _) rel (Only.refl _ _)⟩
  | cons a b => exact hw.elim
theorem jgs_cons {e : Expr} {es : List Expr} {ts us : List Nat} {g : DTG} {r : DTGs} (h1 : JG X e ts g) (h2 : JGs X es us r) (hs : (assignEach (e :: es) X.env).map (·.2) = assign e X.env :: (assignEach es X.env).map (·.2) := by rfl) : JGs X (e :: es) (ts ++ us) (gsCons g r) :=
  pgs_le (pgs_cons h1 h2 hs) fun pins s v σ H Q I ⟨B, G, δ, d, R, rel, dn, hw, k⟩ => by
    cases dn with
    | nil => exact hw.elim
    | cons a b => exact ⟨_, _, rfl, B, G, δ, _, _, rel, a, hw, fun σ1 H1 G1 δ1 r1 s1 rel1 o1 => ⟨B, G1, δ1, _, _, rel1, b.mono s1, r1, fun σ2 H2 G2 δ2 r2 s2 rel2 o2 => k σ2 H2 G2 δ2 r2 (s1.trans s2) rel2 (o1.trans o2)⟩⟩
theorem jg_tup {es : List Expr} {kk : Nat} {ts : List Nat} {r : DTGs} {n : Nat} (hc : X.calm = true) (h : JGs X es ts r) (hr : ∀ xs δ R, r xs δ R → xs.length = n)
    (hn : (assignEach es X.env).length = n := by rfl) (hst : (assignEach es X.env).findIdx? (·.1) = none := by rfl) : JG X (.Tuple es kk pos) ts (gT r) :=
  pg_le (pg_tup hc h hn hst) fun pins s v σ H Q I ⟨B, G, δ, d, R, rel, dn, hw, k⟩ => by
    cases dn with
    | tup hs ht => exact ⟨_, _, rfl, sqT_mono rel.sg (SqT.of hs), by rw [ht.len]; exact hr _ _ _ hw, B, G, δ, _, R, rel, ht, hw, k⟩
    | _ => exact hw.elim
end
theorem gs_len0 : ∀ xs δ R, gsNil xs δ R → xs.length = 0 := fun xs δ R h => by
  cases xs with
  | nil => rfl
  | cons x xs => exact h.elim
theorem gs_lenN {i : Nat} {r : DTGs} {n : Nat} (h : ∀ xs δ R, r xs δ R → xs.length = n) : ∀ xs δ R, gsCons (gN i) r xs δ R → xs.length = n + 1 := fun xs δ R q => by
  cases xs with
  | nil => exact q.elim
  | cons x xs => rw [List.length_cons, h xs _ R q]
/-- J gives the items, whatever is done meanwhile -/
def WalkD (K : PySem.W.Frag) (J : It) (G : Hp) (xs : List PyData) : Prop := ∀ (B G2 : Hp) (δ : DS) (σ : L2.St) (H : Hp), Same G G2 → Rel K B G2 δ σ H →
  (∀ i, i < xs.length → J.go i H) ∧ J.stop xs.length H ∧ ∀ i x d H', xs[i]? = some d → J.yld i H x H' → ∃ G3, Same G2 G3 ∧ Rel K B G3 δ σ H' ∧ Dn K G3 x d
def upI (K : PySem.W.Frag) (w : DL) : TI := fun σ H R => ∃ B G δ R', Rel K B G δ σ H ∧ w δ R' ∧ ∀ J H' G' xs δ', R' xs δ' → Same G G' → Rel K B G' δ' σ H' → WalkD K J G' xs → xs.length ≤ sizeLine → R J H'
abbrev JI (X : Cx) (tg iter : Expr) (w : DL) : Prop := PI X tg iter (upI X.K w)
section
variable {X : Cx} {tg : Expr} {pos : Pos}
theorem pi_le {iter : Expr} {t t' : TI} (h : PI X tg iter t) (l : ∀ pins s σ H R, Inv X pins σ H s → t' σ H R → t σ H R) : PI X tg iter t' := ⟨fun pins s σ H R I q => h.run pins s σ H R I (l pins s σ H R I q)⟩
theorem walk_of_list {K : PySem.W.Frag} {G : Hp} {a : Addr} {vs : List V} {xs : List PyData} (h : G a = some (.lst vs)) (t : DnL K G vs xs) (inj : ∀ (B G2 : Hp) (δ : DS) (σ : L2.St) (H : Hp), Same G G2 → Rel K B G2 δ σ H → True) : WalkD K (Itl K a) G xs := fun B G2 δ σ H s rel => by
  have hH : SqL K H a vs := SqL.of (rel.sg _ _ (s _ _ h))
  have hl := t.len
  refine ⟨fun i hi => ⟨vs, vs[i]'(by omega), hH, List.getElem?_eq_getElem (by omega)⟩, ⟨vs, hH, by omega⟩, fun i x d H' hd y => ?_⟩
  obtain ⟨rfl, y⟩ := y
  obtain ⟨v, hv, dv⟩ := t.get hd
  have e := y vs hH
  rw [hv] at e; cases e
  exact ⟨G2, Same.refl _, rel, dv.mono s⟩
theorem walk_of_tup {K : PySem.W.Frag} {G : Hp} {a : Addr} {vs : List V} {xs : List PyData} (h : SqT K G a vs) (t : DnL K G vs xs) : WalkD K (Itt K a) G xs := fun B G2 δ σ H s rel => by
  have hH : SqT K H a vs := sqT_mono rel.sg (sqT_mono s h)
  have hl := t.len
  refine ⟨fun i hi => ⟨vs, vs[i]'(by omega), hH, List.getElem?_eq_getElem (by omega)⟩, ⟨vs, hH, by omega⟩, fun i x d H' hd y => ?_⟩
  obtain ⟨rfl, y⟩ := y
  obtain ⟨v, hv, dv⟩ := t.get hd
  have e := y vs hH
  rw [hv] at e; cases e
  exact ⟨G2, Same.refl _, rel, dv.mono s⟩
/-- for x in a tuple, a list -/
def iSeq (w : DE) : DL := fun δ R => w δ fun o δ1 => lk o δ1 fun x δ2 => match x with
  | .tuple xs => R xs δ2
  | .list xs => R xs δ2
  | _ => False
/-- iter of a tuple or a list -/
def iEither (K : PySem.W.Frag) (t : TE) : TI := fun σ H R => t σ H fun x H1 => ∃ a, x = .ref a ∧ ((∃ xs, SqL K H1 a xs ∧ R (Itl K a) H1) ∨ (∃ xs, SqT K H1 a xs ∧ R (Itt K a) H1))
theorem pi_either {l : Expr} {tl : TE} (hl : PE X l tl) : PI X tg l (iEither X.K tl) where
  run pins s σ H R I h := by
    refine wpAny_mono (hl.run pins s σ H _ I h) ?_ fun _ _ z => z
    rintro v ⟨hp, gs, dr, tk, os⟩ ⟨_, H1, I1, r1, a, rfl, q⟩
    cases r1
    have own : ∀ b ∈ [hp.objs.size], FpOk X pins H1 b := List.forall_mem_singleton.mpr (I1.fpOk (Nat.le_refl _) (I1.hok.fresh (Nat.le_refl _)))
    have kept : ∀ {o : Obj} b u, hp.get? b = some u → (hp.push o).get? b = some u := fun _ _ e => Heap.get?_push_of_some _ e
    rcases q with ⟨xs, isL, q⟩ | ⟨xs, isT, q⟩
    · obtain ⟨_, _, at_a, _⟩ := I1.list isL
      exact wpAny_pyIter_list at_a.isList ⟨_, _, _, _, H1, rfl, I1.kept (t' := tk) kept, turn_list a _, ⟨_, Heap.get?_push_size _ rfl, rfl, rfl⟩, own, q⟩
    · obtain ⟨its, _, at_a, _⟩ := I1.tuple isT
      exact wpAny_pyIter_tuple (show hp.IsTuple a its.toArray from at_a) ⟨_, _, _, _, H1, rfl, I1.kept (t' := tk) kept, turn_tuple a _, ⟨_, Heap.get?_push_size _ rfl, rfl, rfl⟩, own, q⟩
/-- what the length of a list or tuple is bounded by -/
theorem piB {l : Expr} {w : DE} (h : JE X l w) : PE X l (fun σ H Q => up X.K w σ H fun v H1 => (∀ a xs, v = .ref a → (SqL X.K H1 a xs ∨ SqT X.K H1 a xs) → xs.length ≤ sizeLine) → Q v H1) where
  run pins s σ H Q I q := wpAny_mono (h.run pins s σ H _ I q) (fun v s1 ⟨x, H1, I1, r1, q1⟩ => ⟨x, H1, I1, r1, q1 fun a xs _ hs => hs.elim (fun z => (I1.list z).elim fun _ z => z.2.2) (fun z => (I1.tuple z).elim fun _ z => z.2.2)⟩) fun _ _ z => z
theorem ji_seq {l : Expr} {w : DE} (h : JE X l w) : JI X tg l (iSeq w) := pi_le (pi_either (piB h)) fun pins s σ H R I ⟨B, G, δ, R', rel, hw, k⟩ => ⟨B, G, δ, _, rel, hw, fun v H1 G1 o δ1 r1 s1 rel1 ok1 hz => by
  obtain ⟨G2, δ2, x, q, s2, rel2, dn⟩ := lk_ok rel1 ok1 r1
  cases dn with
  | lst hs t => exact ⟨_, rfl, .inl ⟨_, SqL.of (rel2.sg _ _ hs), k _ H1 G2 _ δ2 q (s1.trans s2) rel2 (walk_of_list hs t fun _ _ _ _ _ _ _ => trivial) (by rw [← t.len]; exact hz _ _ rfl (.inl (SqL.of (rel2.sg _ _ hs))))⟩⟩
  | tup hs t => exact ⟨_, rfl, .inr ⟨_, sqT_mono rel2.sg (SqT.of hs), k _ H1 G2 _ δ2 q (s1.trans s2) rel2 (walk_of_tup (SqT.of hs) t) (by rw [← t.len]; exact hz _ _ rfl (.inr (sqT_mono rel2.sg (SqT.of hs))))⟩⟩
  | _ => exact q.elim⟩
/-- for i in range(n), range(m, n) -/
def nums (lo : Int) (n : Nat) : List PyData := (List.range n).map fun (i : Nat) => PyData.int (lo + (i : Int))
theorem walk_of_range {K : PySem.W.Frag} {G : Hp} {lo : Int} {n : Nat} : WalkD K (Itr lo n) G (nums lo n) := fun B G2 δ σ H s rel => by
  have hl : (nums lo n).length = n := by simp [nums]
  refine ⟨fun i hi => by rw [hl] at hi; exact hi, by rw [hl]; exact Nat.le_refl _, fun i x d H' hd y => ?_⟩
  obtain ⟨rfl, rfl⟩ := y
  unfold nums at hd
  rw [List.getElem?_map] at hd
  cases e : (List.range n)[i]? with
  | none => rw [e] at hd; cases hd
  | some j =>
    rw [e] at hd
    obtain ⟨h1, h2⟩ := List.getElem?_eq_some_iff.mp e
    rw [List.getElem_range] at h2
    cases hd
    subst h2
    exact ⟨G2, Same.refl _, rel, Dn.int _⟩
def iRange1 (w : DA) : DL := fun δ R => w δ fun os δ1 => useL os δ1 fun xs => ∃ j, xs = [PyData.int j] ∧ -1000000 ≤ j ∧ j ≤ 1000000 ∧ R (nums 0 j.toNat) δ1
def iRange2 (w : DA) : DL := fun δ R => w δ fun os δ1 => useL os δ1 fun xs => ∃ i j, xs = [PyData.int i, PyData.int j] ∧ (-1000000 ≤ i ∧ i ≤ 1000000 ∧ -1000000 ≤ j ∧ j ≤ 1000000) ∧ R (nums i (j - i).toNat) δ1
theorem nums_len {lo : Int} {n : Nat} : (nums lo n).length = n := by simp [nums]
theorem ji_range1 {a : Expr} {w : DA} {p : Pos} (hg : Gl X "range") (hm : X.mg "range" = none) (ha : JA X [a] w) (hs : starEach [a] X.env = [(false, eval a X.env)] := by rfl) : JI X tg (.Call (.Name "range" p) [a] [] pos) (iRange1 w) :=
  pi_le (pi_range1 hg hm ha hs) fun pins s σ H R I ⟨B, G, δ, R', rel, hw, k⟩ => ⟨B, G, δ, _, rel, hw, fun vs H1 G1 os δ1 r1 s1 rel1 ok1 => by
    obtain ⟨xs, ⟨j, rfl, h1, h2, q⟩, b⟩ := useL_ok rel1 ok1 r1
    obtain ⟨v, rfl, bv⟩ := b.one
    obtain rfl := bor_int bv
    exact ⟨j, rfl, by omega, by omega, k _ H1 G1 _ δ1 q s1 rel1 walk_of_range (by rw [nums_len, sizeLine_eq]; omega)⟩⟩
theorem ji_range2 {a b : Expr} {w : DA} {p : Pos} (hg : Gl X "range") (hm : X.mg "range" = none) (ha : JA X [a, b] w) (hs : starEach [a, b] X.env = [(false, eval a X.env), (false, eval b X.env)] := by rfl) (hs2 : starEach [b] X.env = [(false, eval b X.env)] := by rfl) : JI X tg (.Call (.Name "range" p) [a, b] [] pos) (iRange2 w) :=
  pi_le (pi_range2 hg hm ha hs hs2) fun pins s σ H R I ⟨B, G, δ, R', rel, hw, k⟩ => ⟨B, G, δ, _, rel, hw, fun vs H1 G1 os δ1 r1 s1 rel1 ok1 => by
    obtain ⟨xs, ⟨i, j, rfl, h1, q⟩, b⟩ := useL_ok rel1 ok1 r1
    obtain ⟨v, u, rfl, bv, bu⟩ := b.two
    obtain rfl := bor_int bv
    obtain rfl := bor_int bu
    exact ⟨i, j, rfl, ⟨by omega, by omega, by omega, by omega⟩, k _ H1 G1 _ δ1 q s1 rel1 walk_of_range (by rw [nums_len, sizeLine_eq]; omega)⟩⟩
/-- pairs -/
def pairsD : List PyData → List PyData → List PyData
  | x :: xs, y :: ys => .tuple [x, y] :: pairsD xs ys
  | _, _ => []
end
end DL
set_option Elab.async false
set_option linter.all false
set_option maxRecDepth 100000
set_option maxHeartbeats 4000000
namespace DL
open PySem PySem.Spec PyProof.Rows L2
variable [Tb]

def forIt (g : DTG) (b : DTS) : List PyData → DEnds → DS → Prop
  | [], E, δ => E.nx δ
  | x :: xs, E, δ => g x δ fun δ1 => b { nx := forIt g b xs E, rt := E.rt, bk := E.nx, ct := forIt g b xs E } δ1
def wFor (wi : DL) (g : DTG) (b : DTS) : DTS := fun E δ => wi δ fun xs δ1 => forIt g b xs E δ1
section
variable {X : Cx} {pos : Pos}
theorem js_for {tg iter : Expr} {body : List Stmt} {wi : DL} {g : DTG} {b : DTS} {ts : List Nat} (hp : PassesOwn (model X.prog X.w) X.A X.env X.xe) (hc : X.calm = true) (hi : JI X tg iter wi) (hg : JG X tg ts g) (hb : JSs X body b)
    (hs : ∀ x, foldedSetIterable iter X.env x = pure x := by intro _; rfl) : JS X (.For tg iter body [] pos) (wFor wi g b) := ps_le (ps_for hp hc hi hg hb hs) fun pins s σ H D I ⟨B, G, δ, E, rel, hw, k⟩ => by
  refine ⟨B, G, δ, _, rel, hw, fun J H1 G1 xs δ1 r1 s1 rel1 wk hl => ?_⟩
  refine ⟨fun i m σ' H' => m = xs.length - i ∧ i ≤ xs.length ∧ ∃ G2 δ2, Same G1 G2 ∧ Rel X.K B G2 δ2 σ' H' ∧ forIt g b (xs.drop i) E δ2, ⟨xs.length, by simp, Nat.zero_le _, G1, δ1, Same.refl _, rel1, by simpa using r1⟩, ?_⟩
  rintro i m σ2 H2 ⟨rfl, hi', G2, δ2, s2, rel2, q⟩
  obtain ⟨go, stop, yld⟩ := wk B G2 δ2 σ2 H2 s2 rel2
  by_cases hlt : i < xs.length
  · have ed : xs.drop i = xs[i] :: xs.drop (i + 1) := List.drop_eq_getElem_cons hlt
    rw [ed] at q
    refine .inr ⟨go i hlt, fun σ' H' => ∃ G3 δ3, Same G1 G3 ∧ Rel X.K B G3 δ3 σ' H' ∧ forIt g b (xs.drop (i + 1)) E δ3, fun σ' H' ⟨G3, δ3, s3, rel3, q3⟩ => ⟨xs.length - (i + 1), by omega, rfl, hlt, G3, δ3, s3, rel3, q3⟩, fun x H3 y => ?_⟩
    obtain ⟨G3, s3, rel3, dn⟩ := yld i x _ H3 (List.getElem?_eq_getElem hlt) y
    refine ⟨B, G3, δ2, _, _, rel3, dn, q, fun σ4 H4 G4 δ4 r4 s4 rel4 _ => ?_⟩
    have sa := s1.trans (s2.trans (s3.trans s4))
    exact ⟨B, G4, δ4, _, rel4, r4, ⟨fun σ' H' G5 δ5 r5 s5 rel5 => ⟨G5, δ5, s2.trans (s3.trans (s4.trans s5)), rel5, r5⟩, fun v σ' H' G5 x5 δ5 r5 s5 rel5 d5 => k.rt v σ' H' G5 x5 δ5 r5 (sa.trans s5) rel5 d5,
      fun σ' H' G5 δ5 r5 s5 rel5 => k.nx σ' H' G5 δ5 r5 (sa.trans s5) rel5, fun σ' H' G5 δ5 r5 s5 rel5 => ⟨G5, δ5, s2.trans (s3.trans (s4.trans s5)), rel5, r5⟩⟩⟩
  · have e : i = xs.length := by omega
    subst e
    rw [List.drop_length] at q
    exact .inl ⟨stop, k.nx σ2 H2 G2 δ2 q (s1.trans s2) rel2⟩
def wWhile (c : DT) (b : DTS) : DTS := fun E δ => ∃ W : Nat → DS → Prop, (∃ m, W m δ) ∧ ∀ m δ, W m δ → c δ fun k δ1 => if k = true then b { nx := fun δ' => ∃ m', m' < m ∧ W m' δ', rt := E.rt, bk := E.nx, ct := fun δ' => ∃ m', m' < m ∧ W m' δ' } δ1 else E.nx δ1
theorem js_while {c : Expr} {body : List Stmt} {tc : DT} {b : DTS} (hp : PassesOwn (model X.prog X.w) X.A X.env X.xe) (hc : JT X c tc) (hb : JSs X body b) : JS X (.While c body [] pos) (wWhile tc b) := ps_le (ps_while hp hc hb) fun pins s σ H D I ⟨B, G, δ, E, rel, ⟨W, ⟨m0, w0⟩, turn⟩, k⟩ => by
  refine ⟨fun m σ' H' => ∃ G2 δ2, Same G G2 ∧ Rel X.K B G2 δ2 σ' H' ∧ W m δ2, ⟨m0, G, δ, Same.refl _, rel, w0⟩, ?_⟩
  rintro m σ2 H2 ⟨G2, δ2, s2, rel2, q⟩
  refine ⟨B, G2, δ2, _, rel2, turn m δ2 q, fun kb H3 G3 δ3 r3 s3 rel3 => ?_⟩
  cases kb with
  | false => rw [if_neg Bool.false_ne_true] at r3 ⊢; exact k.nx σ2 H3 G3 δ3 r3 (s2.trans s3) rel3
  | true =>
    rw [if_pos rfl] at r3 ⊢
    have sa := s2.trans s3
    refine ⟨fun σ' H' => ∃ G4 δ4, Same G G4 ∧ Rel X.K B G4 δ4 σ' H' ∧ ∃ m', m' < m ∧ W m' δ4, fun σ' H' ⟨G4, δ4, s4, rel4, m', hm, w4⟩ => ⟨m', hm, G4, δ4, s4, rel4, w4⟩, B, G3, δ3, _, rel3, r3, ?_⟩
    exact ⟨fun σ' H' G5 δ5 r5 s5 rel5 => ⟨G5, δ5, sa.trans s5, rel5, r5⟩, fun v σ' H' G5 x5 δ5 r5 s5 rel5 d5 => k.rt v σ' H' G5 x5 δ5 r5 (sa.trans s5) rel5 d5, fun σ' H' G5 δ5 r5 s5 rel5 => k.nx σ' H' G5 δ5 r5 (sa.trans s5) rel5, fun σ' H' G5 δ5 r5 s5 rel5 => ⟨G5, δ5, sa.trans s5, rel5, r5⟩⟩
end

def wipeD (δ : DS) : List Nat → DS
  | [] => δ
  | v :: vs => (wipeD δ vs).set v .em
def keepC : Cell → Cell
  | .d x => .d x
  | _ => .em
def backD (δ0 δ : DS) : List Nat → DS
  | [] => δ
  | v :: vs => (backD δ0 δ vs).set v (keepC ((δ0[v]?).getD .em))
def compIt (g : DTG) (t : DT) (e : DE) (vs : List Nat) : List PyData → List PyData → DS → (List PyData → DS → Prop) → Prop
  | [], acc, δ, R => R acc δ
  | x :: xs, acc, δ, R => g x δ fun δ1 => t δ1 fun b δ2 => if b = true then e δ2 fun o δ3 => lk o δ3 fun y δ4 => compIt g t e vs xs (acc ++ [y]) (wipeD δ4 vs) R else compIt g t e vs xs acc (wipeD δ2 vs) R
def wComp (wi : DL) (g : DTG) (t : DT) (e : DE) (vs : List Nat) : DL := fun δ R => wi δ fun xs δ1 => compIt g t e vs xs [] (wipeD δ1 vs) fun ys δ2 => R ys (backD δ1 δ2 vs)
def tT : DT := fun δ R => R true δ
abbrev JTs (X : Cx) (es : List Expr) (w : DT) : Prop := PTs X es (upT X.K w)
section
variable {K : PySem.W.Frag} {B G H : Hp} {δ : DS} {σ : L2.St}
theorem Rel.wipe (R : Rel K B G δ σ H) : ∀ vs : List Nat, Rel K B G (wipeD δ vs) (L2.wipe σ vs) H
  | [] => R
  | v :: vs => (Rel.wipe R vs).clear none
theorem wipeD_em {i : Nat} : ∀ {vs : List Nat} {δ : DS}, i ∈ vs → (wipeD δ vs)[i]? = none ∨ (wipeD δ vs)[i]? = some .em
  | [], _, h => by cases h
  | v :: vs, δ, h => by
    unfold wipeD
    by_cases hv : v = i
    · subst hv
      rw [List.getElem?_set]
      simp only [if_true]
      split
      · exact .inr rfl
      · exact .inl rfl
    · rw [List.getElem?_set_ne hv]
      rcases List.mem_cons.mp h with z | z
      · exact absurd z.symm hv
      · exact wipeD_em z
theorem wipe_at {i : Nat} : ∀ {vs : List Nat} {σ : L2.St}, i ∉ vs → (L2.wipe σ vs)[i]? = σ[i]? := fun h => wipe_out h
theorem Rel.unwipe {vs : List Nat} {σ : L2.St} (R : Rel K B G (wipeD δ vs) (L2.wipe σ vs) H) : Rel K B G (wipeD δ vs) σ H := by
  refine ⟨by rw [← R.len, wipe_length], R.sg, R.sb, R.dj, fun i c o e1 e2 => ?_, R.ap, R.fr, R.tt⟩
  by_cases h : i ∈ vs
  · rcases wipeD_em (δ := δ) h with z | z
    · rw [z] at e1; cases e1
    · rw [z] at e1; cases e1; trivial
  · exact R.ok i c o e1 (by rw [wipe_at h]; exact e2)
theorem Rel.back {G0 : Hp} {δ0 : DS} {H0 : Hp} {B0 : Hp} (R : Rel K B G δ σ H) (R0 : Rel K B0 G0 δ0 σ H0) (s : Same G0 G) : ∀ vs : List Nat, Rel K B G (backD δ0 δ vs) σ H
  | [] => R
  | v :: vs => by
    have ih := Rel.back R R0 s vs
    have em : Rel K B G ((backD δ0 δ vs).set v .em) σ H := by
      cases hσ : σ[v]? with
      | some o => exact ih.recell hσ trivial fun a m => nomatch m
      | none =>
        have hl : (backD δ0 δ vs).length ≤ v := by
          rw [← ih.len]; exact List.getElem?_eq_none_iff.mp hσ
        rw [List.set_eq_of_length_le hl]; exact ih
    unfold backD
    cases e : δ0[v]? with
    | none => exact em
    | some c =>
      cases c with
      | d x =>
        obtain ⟨o, hσ, w, rfl, dn⟩ := R0.at e
        exact ih.recell hσ ⟨w, rfl, dn.mono s⟩ fun a m => nomatch m
      | _ => exact em
theorem wipe_wipe (σ : L2.St) (vs : List Nat) : L2.wipe (L2.wipe σ vs) vs = L2.wipe σ vs := by
  have h : ∀ (us : List Nat) (σ : L2.St), (∀ u ∈ us, u ∈ vs) → L2.wipe (L2.wipe σ us) vs = L2.wipe σ vs := by
    intro us
    induction us with
    | nil => intro σ _; rfl
    | cons u us ih =>
      intro σ hu
      show L2.wipe ((L2.wipe σ us).set u none) vs = _
      rw [wipe_set (hu u (List.mem_cons_self ..)), ih σ fun x m => hu x (List.mem_cons_of_mem _ m)]
  exact h vs σ fun _ m => m
end
section
variable {X : Cx} {pos : Pos}
theorem jts_nil : JTs X [] tT := ⟨fun pins s σ H Q I ⟨B, G, δ, R, rel, hw, k⟩ => pts_nil.run pins s σ H Q I (k true H G δ hw (Same.refl _) rel)⟩
theorem jts_one {c : Expr} {t : DT} (h : JT X c t) : JTs X [c] t := pts_one h
theorem comp_up {wi : DL} {g : DTG} {t : DT} {e : DE} {ts vs : List Nat} {K : PySem.W.Frag} {σ : L2.St} {H : Hp} {Q : VK} (hts : ∀ t ∈ ts, t ∈ vs) (h : upL K (wComp wi g t e vs) σ H Q) : tLc (upI K wi) (upG K ts g) (upT K t) (up K e) vs σ H Q := by
  obtain ⟨B, G, δ, R, rel, hw, k⟩ := h
  refine ⟨B, G, δ, _, rel, hw, fun J H1 G1 xs δ1 r1 s1 rel1 wk hl D nD => ?_⟩
  have bD := rel1.freeB nD
  refine ⟨fun i m H' => m = xs.length - i ∧ i ≤ xs.length ∧ ∃ accV accD G2 δ2, Same G1 G2 ∧ Rel K (upd B D (.lst accV)) G2 (wipeD δ2 vs) (wipe σ vs) H' ∧ DnL K G2 accV accD ∧ accV.length ≤ i ∧ compIt g t e vs (xs.drop i) accD (wipeD δ2 vs) (fun ys δ2 => R ys (backD δ1 δ2 vs)),
    ⟨xs.length, by simp, Nat.zero_le _, [], [], G1, δ1, Same.refl _, (rel1.growB nD).wipe vs, .nil, Nat.zero_le _, by simpa using r1⟩, ?_⟩
  rintro i m H2 ⟨rfl, hi, accV, accD, G2, δ2, s2, rel2, dacc, hal, q⟩
  obtain ⟨go, stop, yld⟩ := wk _ G2 _ _ H2 s2 rel2
  by_cases hlt : i < xs.length
  · have ed : xs.drop i = xs[i] :: xs.drop (i + 1) := List.drop_eq_getElem_cons hlt
    rw [ed] at q
    refine .inr ⟨go i hlt, fun H' => ∃ accV accD G3 δ3, Same G1 G3 ∧ Rel K (upd B D (.lst accV)) G3 (wipeD δ3 vs) (wipe σ vs) H' ∧ DnL K G3 accV accD ∧ accV.length ≤ i + 1 ∧ compIt g t e vs (xs.drop (i + 1)) accD (wipeD δ3 vs) (fun ys δ2 => R ys (backD δ1 δ2 vs)),
      fun H' ⟨a1, a2, a3, a4, a5, a6, a7, a8, a9⟩ => ⟨xs.length - (i + 1), by omega, rfl, hlt, a1, a2, a3, a4, a5, a6, a7, a8, a9⟩, fun x H3 y => ?_⟩
    obtain ⟨G3, s3, rel3, dn⟩ := yld i x _ H3 (List.getElem?_eq_getElem hlt) y
    refine ⟨_, G3, _, _, _, rel3, dn, q, fun σ4 H4 G4 δ4 r4 s4 rel4 ho => ?_⟩
    have ew : wipe σ4 vs = wipe σ vs := by rw [ho vs hts, wipe_wipe]
    refine ⟨ew, _, G4, δ4, _, rel4, r4, fun b H5 G5 δ5 r5 s5 rel5 => ?_⟩
    cases b with
    | false =>
      rw [if_neg Bool.false_ne_true] at r5 ⊢
      have R6 := rel5.wipe vs
      rw [ew] at R6
      exact ⟨accV, accD, G5, δ5, s2.trans (s3.trans (s4.trans s5)), R6, DnL.mono (s3.trans (s4.trans s5)) _ dacc, by omega, r5⟩
    | true =>
      rw [if_pos rfl] at r5 ⊢
      refine ⟨_, G5, δ5, _, rel5, r5, fun v H6 G6 o δ6 r6 s6 rel6 ok6 => ?_⟩
      obtain ⟨G7, δ7, z, q7, s7, rel7, dz⟩ := lk_ok rel6 ok6 r6
      refine ⟨accV, rel7.sb _ _ upd_same, by omega, accV ++ [v], accD ++ [z], G7, δ7, s2.trans (s3.trans (s4.trans (s5.trans (s6.trans s7)))), ?_, (DnL.mono (s3.trans (s4.trans (s5.trans (s6.trans s7)))) _ dacc).app (.cons dz .nil), by simp; omega, q7⟩
      have R8 := (rel7.putB (p := D) (o := .lst (accV ++ [v])) upd_same notTE_lst).wipe vs
      rw [upd_upd, ew] at R8
      exact R8
  · have e1 : i = xs.length := by omega
    subst e1
    rw [List.drop_length] at q
    refine .inl ⟨stop, ?_⟩
    exact k D accV H2 G2 accD _ q (s1.trans s2) (rel2.unwipe.back rel1 s2 vs) bD dacc
theorem jl_comp {elt tg iter : Expr} {ifs : List Expr} {scope : Scope} {own : List (Str × Nat)} {wi : DL} {g : DTG} {t : DT} {e : DE} {ts : List Nat} (hc : X.calm = true) (hN : X.N.Nodup) (hi : JI X tg iter wi) (ok : BlkOk X.N X.env.scope scope own) (hts : ∀ t ∈ ts, t ∈ own.map (·.2))
    (hg : ∀ (s : Shared) (H : Hp) (C : Addr) (cl : List (Str × Addr)) (fp : List Addr), JG (X.blk s H scope (compEnvC scope cl C X.env) fp) tg ts g) (ht : ∀ (s : Shared) (H : Hp) (C : Addr) (cl : List (Str × Addr)) (fp : List Addr), JTs (X.blk s H scope (compEnvC scope cl C X.env) fp) ifs t)
    (he : ∀ (s : Shared) (H : Hp) (C : Addr) (cl : List (Str × Addr)) (fp : List Addr), JE (X.blk s H scope (compEnvC scope cl C X.env) fp) elt e) (hs : ∀ x, foldedSetIterable iter X.env x = pure x := by intro _; rfl) :
    JL X (.ListComp elt [⟨tg, iter, ifs, 0⟩] scope pos) (wComp wi g t e (own.map (·.2))) :=
  pe_le (pe_lc hc hN hi ok hg ht he hs) fun _ _ _ _ _ _ h => comp_up hts h
theorem upM_l {w : DL} {K : PySem.W.Frag} {σ : L2.St} {H : Hp} {Q : VK} (h : upM K (mL w) σ H Q) : upL K w σ H Q := by
  obtain ⟨B, G, δ, R, rel, hw, k⟩ := h
  refine ⟨B, G, δ, _, rel, hw, fun a vs H1 G1 xs δ1 r1 s1 rel1 hB t => ?_⟩
  have ha : H1 a = some (.lst vs) := rel1.sb _ _ upd_same
  have e : bov B H1 [a] = upd B a (.lst vs) := by
    funext b
    unfold bov upd
    by_cases hb : b = a
    · subst hb; simp [ha]
    · simp [hb]
  exact k (.ref a) H1 G1 (.ol a xs) δ1 (r1 a) s1 (by show Rel K (bov B H1 [a]) G1 δ1 σ H1; rw [e]; exact rel1) (fun b m => by rw [List.mem_singleton.mp m]; exact hB) ⟨rfl, vs, ha, t⟩
/-- a statement name = value, by the value's way -/
theorem js_asg {st : Stmt} {i : Nat} {te : TE} {w : DM} (h : PS X st (tAsg te (gName i))) (l : ∀ σ H Q, upM X.K w σ H Q → te σ H Q) : JS X st (wSet i w) := ps_le h fun pins s σ H D I ⟨B, G, δ, E, rel, hw, k⟩ => by
  refine l σ H _ ⟨B, G, δ, _, rel, hw, fun v H1 G1 c δ1 r1 s1 rel1 hB ok1 => ?_⟩
  have R2 := Rel.store (i := i) (l := []) (by rw [List.append_nil]; exact rel1) hB (fun _ _ m => nomatch m) ok1
  rw [bov_nil] at R2
  exact k.nx _ H1 G1 _ r1 s1 R2
/-- x = [..], one's own -/
theorem js_setCL {i : Nat} {y : Str} {py spos : Pos} {elt tg iter : Expr} {ifs : List Expr} {scope : Scope} {own : List (Str × Nat)} {wi : DL} {g : DTG} {t : DT} {e : DE} {ts : List Nat} (hc : X.calm = true) (hN : X.N.Nodup) (hy : X.N[i]? = some y) (hyl : X.env.scope.names.lookup y = some .local)
    (hsw : swapsWith (.ListComp elt [⟨tg, iter, ifs, 0⟩] scope pos) (some (.Name y py)) spos.line X.env = pure true) (hi : JI X tg iter wi) (ok : BlkOk X.N X.env.scope scope own) (hts : ∀ t ∈ ts, t ∈ own.map (·.2))
    (hg : ∀ (s : Shared) (H : Hp) (C : Addr) (cl : List (Str × Addr)) (fp : List Addr), JG (X.blk s H scope (compEnvC scope cl C X.env) fp) tg ts g) (ht : ∀ (s : Shared) (H : Hp) (C : Addr) (cl : List (Str × Addr)) (fp : List Addr), JTs (X.blk s H scope (compEnvC scope cl C X.env) fp) ifs t)
    (he : ∀ (s : Shared) (H : Hp) (C : Addr) (cl : List (Str × Addr)) (fp : List Addr), JE (X.blk s H scope (compEnvC scope cl C X.env) fp) elt e) (hs : ∀ x, foldedSetIterable iter X.env x = pure x := by intro _; rfl) :
    JS X (.Assign [.Name y py] (.ListComp elt [⟨tg, iter, ifs, 0⟩] scope pos) spos) (wSet i (mL (wComp wi g t e (own.map (·.2))))) :=
  js_asg (ps_setLc hc hN hy hyl hsw hi ok hg ht he hs) fun σ H Q h => comp_up hts (upM_l h)
def isOl (δ : DS) (i : Nat) : Prop := ∃ a xs, δ[i]? = some (.ol a xs)
def wAppend (i : Nat) (w : DE) : DTS := fun E δ => isOl δ i ∧ w δ fun o δ1 => lk o δ1 fun y δ2 => match δ2[i]? with
  | some (.ol a xs) => xs.length ≤ 1000000 ∧ E.nx (δ2.set i (.ol a (xs ++ [y])))
  | _ => False
theorem js_append {i : Nat} {e : Expr} {x : Str} {w : DE} {px apos cpos : Pos} (hx : PE X (.Name x px) (tVar i)) (he : JE X e w) (hs : swapsWith (.Call (.Attribute (.Name x px) "append" apos) [e] [] cpos) none pos.line X.env = pure false := by rfl) (hsE : starEach [e] X.env = (false, eval e X.env) :: starEach [] X.env := by rfl)
    (hb : PE X (.Call (.Attribute (.Name x px) "append" apos) [e] [] cpos) (tBM X.K "list" rAppend (tVar i) (tCons (up X.K w) tNil))) : JS X (.Expr (.Call (.Attribute (.Name x px) "append" apos) [e] [] cpos) pos) (wAppend i w) :=
  ps_le (ps_expr hb hs) fun pins s σ H D I ⟨B, G, δ, E, rel, ⟨⟨a, xs, hδ⟩, hw⟩, k⟩ => by
    obtain ⟨o, hσ, rfl, vs, ha, t⟩ := rel.at hδ
    refine ⟨.ref a, hσ, .inl ⟨rfl, _, SqL.of ha⟩, B, G, δ, _, rel, hw, fun v H1 G1 o δ1 r1 s1 rel1 ok1 => ?_⟩
    obtain ⟨G2, δ2, y, q, s2, rel2, dn⟩ := lk_ok rel1 ok1 r1
    cases e2 : δ2[i]? with
    | none => rw [e2] at q; exact q.elim
    | some c =>
      rw [e2] at q
      cases c with
      | ol b ys =>
        obtain ⟨o2, hσ2, e3, ws, hb, t2⟩ := rel2.at e2
        rw [hσ] at hσ2
        cases hσ2
        cases e3
        obtain ⟨q1, q2⟩ := q
        refine ⟨a, ws, v, rfl, rfl, hb, by rw [t2.len, sizeLine_eq]; omega, ?_⟩
        exact k.nx _ _ G2 _ q2 (s1.trans s2) (rel2.write e2 (t2.app (.cons dn .nil)))
      | _ => exact q.elim
def wExtend (i : Nat) (w : DE) : DTS := fun E δ => isOl δ i ∧ w δ fun o δ1 => use o δ1 fun y => ∃ ys, y = .list ys ∧ match δ1[i]? with
  | some (.ol a xs) => xs.length + ys.length ≤ 1000000 ∧ E.nx (δ1.set i (.ol a (xs ++ ys)))
  | _ => False
/-- x[i] = e -/
def wPut (i : Nat) (we wi : DE) : DTS := fun E δ => we δ fun o δ1 => lk o δ1 fun y δ2 => isOl δ2 i ∧ wi δ2 fun oj δ3 => use oj δ3 fun j => match j, δ3[i]? with
  | .int j, some (.ol a xs) => ∃ n, ixN xs.length j = some n ∧ E.nx (δ3.set i (.ol a (xs.set n y)))
  | _, _ => False
theorem js_put {i : Nat} {e j : Expr} {x : Str} {we wi : DE} {px apos : Pos} (hj : JE X j wi) (he : JE X e we)
    (hb : PS X (.Assign [.Subscript (.Name x px) j apos] e pos) (tAsg (up X.K we) (gSub (tVar i) (up X.K wi) rSetL))) : JS X (.Assign [.Subscript (.Name x px) j apos] e pos) (wPut i we wi) :=
  ps_le hb fun pins s σ H D I ⟨B, G, δ, E, rel, hw, k⟩ => ⟨B, G, δ, _, rel, hw, fun v H1 G1 o δ1 r1 s1 rel1 ok1 => by
    obtain ⟨G2, δ2, y, q, s2, rel2, dn⟩ := lk_ok rel1 ok1 r1
    obtain ⟨⟨a, xs, hδ⟩, q⟩ := q
    obtain ⟨o0, hσ, rfl, vs, ha, t⟩ := rel2.at hδ
    refine ⟨.ref a, hσ, B, G2, δ2, _, rel2, q, fun u H3 G3 oj δ3 r3 s3 rel3 ok3 => ?_⟩
    obtain ⟨jd, q3, bj⟩ := use_ok rel3 ok3 r3
    cases jd with
    | int jn =>
      cases e2 : δ3[i]? with
      | none => rw [e2] at q3; exact q3.elim
      | some c =>
        rw [e2] at q3
        cases c with
        | ol a' ws =>
          obtain ⟨o2, hσ2, e3, us, hu, t2⟩ := rel3.at e2
          rw [hσ] at hσ2
          cases hσ2
          cases e3
          obtain ⟨n, hn, q4⟩ := q3
          refine ⟨a, us, jn, n, rfl, bor_int bj, hu, by rw [t2.len]; exact hn, ?_⟩
          exact k.nx _ _ G3 _ q4 (s1.trans (s2.trans s3)) (rel3.write e2 (DnL.set (dn.mono s3) n t2))
        | _ => exact q3.elim
    | _ => exact q3.elim⟩
/-- x.pop() of a list of one's own -/
def wPop (i : Nat) : DE := fun δ R => match δ[i]? with
  | some (.ol a xs) => ∃ y, xs.getLast? = some y ∧ R (.d y) (δ.set i (.ol a xs.dropLast))
  | _ => False
end
end DL
set_option Elab.async false
set_option linter.all false
set_option maxRecDepth 100000
set_option maxHeartbeats 4000000
namespace DL
open PySem PySem.Spec PyProof.Rows L2
variable [Tb]

structure RoomG (k : Nat) (A : Around) : Prop where
  rm : Room k A
  gd : A.guards = some []
theorem RoomG.mono {j k : Nat} {A : Around} (r : RoomG k A) (h : j ≤ k) : RoomG j A := ⟨r.rm.mono h, r.gd⟩
theorem RoomG.deeper {k : Nat} {A : Around} (r : RoomG (k + 1) A) (env : Env) : RoomG k (A.deeper env) := ⟨r.rm.deeper env, r.gd⟩
theorem RoomG.u64 {k : Nat} {A : Around} (r : RoomG k A) : A.units + 64 < cLine := r.rm.units
theorem RoomG.u65 {k : Nat} {A : Around} (r : RoomG k A) : A.units + 65 < cLine := by have := r.rm.un; omega
structure FnG (P : Program) (w : World) (K : PySem.W.Frag) (mg : Str → Option Value) (base : Heap) (CX : CXT) (k : Nat) (f : Addr) (fd : FuncData) (ps : List Str) (sp : Sp) : Prop where
  len (vs : List V) (H : Hp) (Q : VK) (E : XK) (_ : sp vs H Q E) : vs.length = ps.length
  run : ∀ (A : Around) (outer : List Env) (s : Shared) (H : Hp) (args : Args) (us : List Value) (vs : List V) (Q : VK) (E : XK), RoomG k A → Env0 P w K mg base A outer s H →
    BindsTo s fd args (ps.zip us) → Vals vs us → sp vs H Q E → codeAny (model P w) A (.call (.ref f) args) (CR CX outer P w H s Q E) s
section
variable {P : Program} {w : World} {K : PySem.W.Frag} {mg : Str → Option Value} {base : Heap} {CX : CXT}
theorem FnG.mono {j k : Nat} {f : Addr} {fd : FuncData} {ps : List Str} {sp : Sp} (F : FnG P w K mg base CX j f fd ps sp) (h : j ≤ k) : FnG P w K mg base CX k f fd ps sp :=
  ⟨F.len, fun A outer s H args us vs Q E hr => F.run A outer s H args us vs Q E (hr.mono h)⟩
theorem fnG_of {k : Nat} {f : Addr} {name qual : Str} {params : Arguments} {body : List Stmt} {scope : Scope} {dV kV doc pm cdv ct oc : Value} {an od : Option Addr} {osl : Array (Option Value)} {N ps : List Str} {sp : Sp}
    (lk : K.lookup f = some ⟨oc, od, .func (PySem.W.fnOf name qual params body scope dV kV doc pm an cdv ct), osl⟩) (hcd : PySem.W.codeIn K cdv qual = true) (S : FnScope N ps scope) (len : ∀ vs H Q E, sp vs H Q E → vs.length = ps.length)
    (hbody : ∀ (A : Around) (outer : List Env) (s : Shared) (H : Hp) (vs : List V) (Q : VK) (E : XK), RoomG k (A.deeper (envOfC qual scope s.heap.objs.size f cdv)) → sp vs H Q E →
      ∃ t, PSs (cxOf CX P w K mg base N qual scope f cdv A outer s H E) body t ∧ t { nx := fun _ H' => Q .non H', rt := Q } (L2.start N vs) H) : FnG P w K mg base CX (k + 1) f (PySem.W.fnOf name qual params body scope dV kV doc pm an cdv ct) ps sp := by
  refine ⟨len, ?_⟩
  intro A outer s H args us vs Q E room e0 binds r hsp
  have many : vs.length = ps.length := len _ _ _ _ hsp
  have kept : ∀ b o, base.get? b = some o → s.heap.get? b = some o := fun b o e => (e0.bs b o e).1
  have kinds : ∀ y ∈ ps.zip us, scope.names.lookup y.1 = some .local ∨
      (scope.names.lookup y.1 = some .cell ∧ ((cellsFrom (s.heap.objs.size + 1) scope.names []).lookup y.1).isSome = true) := by
    rintro ⟨n, v⟩ m
    rcases S.par n (List.of_mem_zip m).1 with q | q
    · exact .inl q
    · exact .inr ⟨q, PySem.W.cellsFrom_some _ _ _ (.inl q)⟩
  have kin := e0.mod.kin.keeps kept
  refine codeAny_call_function room.rm.depth (kin _ _ lk) rfl S.co S.gen rfl (PySem.W.codeRec_of kin hcd) (binds _ _ _ _ (wpAny_newFunctionEnv_cells S.kind kinds ?_))
  rintro _ rfl s1 made
  obtain ⟨t, body', ht⟩ := hbody A outer s H vs Q E (room.deeper _) hsp
  refine ⟨(e0.mod.nolimit.keeps kept).keeps made.toInCall.keep, codeAny_func (wpAny_mono (body'.run [] s1 (L2.start N vs) H _ (inv_start (CX := CX) (E := E) (N := N) (qual := qual) (f := f) (cd := cdv) S room.rm.hd e0 many r made) ht) ?_ fun _ _ z => z)⟩
  rintro (_ | _ | _ | u) s' g
  · obtain ⟨_, H', J, q⟩ := g; exact ⟨V.non, H', J.os, J.bare, J.base, J.hok, rfl, q⟩
  · exact g.elim fun _ g => g.elim fun _ g => g.2.elim
  · exact g.elim fun _ g => g.elim fun _ g => g.2.elim
  · obtain ⟨v, _, H', J, rv, q⟩ := g; exact ⟨v, H', J.os, J.bare, J.base, J.hok, rv, q⟩
end

abbrev DSp := List Cell → (PyData → List Cell → Prop) → Prop
def liftSp (K : PySem.W.Frag) (sp : DSp) : Sp := fun vs H Q _ => ∃ B G cs R, Rel K B G cs (vs.map some) H ∧ sp cs R ∧ ∀ v H' G' x cs', R x cs' → Same G G' → Rel K B G' cs' (vs.map some) H' → Dn K G' v x → Q v H'
/-- what the arguments' cells are behind the call: data stays, one's own is as the slot tells -/
def outC : List Cell → DS → List Cell
  | [], _ => []
  | .d x :: cs, _ :: δ => .d x :: outC cs δ
  | .em :: cs, _ :: δ => .em :: outC cs δ
  | .scr a ns :: cs, _ :: δ => .scr a ns :: outC cs δ
  | .dx a b c xs n ys :: cs, _ :: δ => .dx a b c xs n ys :: outC cs δ
  | _ :: cs, e :: δ => e :: outC cs δ
  | _, [] => []
def sameIo : List Cell → DS → Prop
  | [], _ => True
  | .ol a _ :: cs, e :: δ => (∃ ys, e = .ol a ys) ∧ sameIo cs δ
  | .dk a b c :: cs, e :: δ => e = .dk a b c ∧ sameIo cs δ
  | .dx .. :: cs, e :: δ => False
  | .xc .. :: cs, e :: δ => False
  | .fv .. :: cs, e :: δ => False
  | .od a _ :: cs, e :: δ => (∃ ys, e = .od a ys) ∧ sameIo cs δ
  | .ob a n _ :: cs, e :: δ => (∃ ys, e = .ob a n ys) ∧ sameIo cs δ
  | _ :: cs, _ :: δ => sameIo cs δ
  | _ :: _, [] => False
theorem outC_at : ∀ {cs : List Cell} {δ : DS} {i : Nat} {c : Cell}, sameIo cs δ → (outC cs δ)[i]? = some c → ∃ c0, cs[i]? = some c0 ∧ (((∃ x, c0 = .d x) ∨ c0 = .em ∨ ∃ a ns, c0 = .scr a ns) ∧ c = c0 ∨ (∃ a xs ys, c0 = .ol a xs ∧ c = .ol a ys ∧ δ[i]? = some c) ∨ (∃ a b d, c0 = .dk a b d ∧ c = c0 ∧ δ[i]? = some c) ∨ (∃ a xs ys, c0 = .od a xs ∧ c = .od a ys ∧ δ[i]? = some c) ∨ (∃ a n xs ys, c0 = .ob a n xs ∧ c = .ob a n ys ∧ δ[i]? = some c))
  | [], _, _, _, _, h => by simp [outC] at h
  | c0 :: cs, [], _, _, s, h => by cases c0 <;> exact s.elim
  | c0 :: cs, e :: δ, 0, c, s, h => by
    refine ⟨c0, rfl, ?_⟩
    cases c0 with
    | em => simp [outC] at h; exact .inl ⟨.inr (.inl rfl), h.symm⟩
    | scr a ns => simp [outC] at h; exact .inl ⟨.inr (.inr ⟨a, ns, rfl⟩), h.symm⟩
    | dx => exact s.elim
    | xc => exact s.elim
    | fv => exact s.elim
    | d x => simp [outC] at h; exact .inl ⟨.inl ⟨x, rfl⟩, h.symm⟩
    | ol a xs => simp [outC] at h; obtain ⟨⟨ys, e1⟩, _⟩ := s; exact .inr (.inl ⟨a, xs, ys, rfl, by rw [← h, e1], by simp [h]⟩)
    | dk a b d => simp [outC] at h; obtain ⟨e1, _⟩ := s; exact .inr (.inr (.inl ⟨a, b, d, rfl, by rw [← h, e1], by simp [h]⟩))
    | od a xs => simp [outC] at h; obtain ⟨⟨ys, e1⟩, _⟩ := s; exact .inr (.inr (.inr (.inl ⟨a, xs, ys, rfl, by rw [← h, e1], by simp [h]⟩)))
    | ob a n xs => simp [outC] at h; obtain ⟨⟨ys, e1⟩, _⟩ := s; exact .inr (.inr (.inr (.inr ⟨a, n, xs, ys, rfl, by rw [← h, e1], by simp [h]⟩)))
  | c0 :: cs, e :: δ, i + 1, c, s, h => by
    have s' : sameIo cs δ := by cases c0 <;> first | exact s | exact s.2 | exact s.elim
    have h' : (outC cs δ)[i]? = some c := by cases c0 <;> simpa [outC] using h
    obtain ⟨c1, e1, q⟩ := outC_at s' h'
    refine ⟨c1, by simpa using e1, ?_⟩
    simpa using q
theorem outC_len : ∀ {cs : List Cell} {δ : DS}, sameIo cs δ → (outC cs δ).length = cs.length
  | [], _, _ => rfl
  | c0 :: cs, [], s => by cases c0 <;> exact s.elim
  | c0 :: cs, e :: δ, s => by
    have s' : sameIo cs δ := by cases c0 <;> first | exact s | exact s.2 | exact s.elim
    cases c0 <;> simp [outC, outC_len s']
def endsOf (cs : List Cell) (R : PyData → List Cell → Prop) : DEnds := { nx := fun δ => sameIo cs δ ∧ R .none (outC cs δ), rt := fun x δ => sameIo cs δ ∧ R x (outC cs δ) }
def start0 (n : Nat) (cs : List Cell) : DS := cs ++ List.replicate (n - cs.length) .em
section
variable {P : Program} {w : World} {K : PySem.W.Frag} {mg : Str → Option Value} {base : Heap}
theorem rel_start {B G H : Hp} {cs : List Cell} {vs : List V} {N : List Str} (R : Rel K B G cs (vs.map some) H) : Rel K B G (start0 N.length cs) (L2.start N vs) H := by
  have hl : vs.length = cs.length := by have := R.len; simpa using this
  have get : ∀ {i : Nat} {c : Cell}, (start0 N.length cs)[i]? = some c → cs[i]? = some c ∨ c = Cell.em := fun {i c} e => by
    unfold start0 at e
    by_cases hi : i < cs.length
    · rw [List.getElem?_append_left hi] at e; exact .inl e
    · rw [List.getElem?_append_right (by omega), List.getElem?_replicate] at e
      split at e
      · cases e; exact .inr rfl
      · cases e
  refine ⟨by simp [start0, L2.start, hl], R.sg, R.sb, R.dj, fun i c o e1 e2 => ?_, fun i j c c' a e1 e2 m1 m2 => ?_, fun i c a e m => ?_, R.tt⟩
  · rcases get e1 with q | rfl
    · have hi : i < cs.length := (List.getElem?_eq_some_iff.mp q).1
      unfold L2.start at e2
      rw [List.getElem?_append_left (by rw [List.length_map, hl]; exact hi)] at e2
      exact R.ok i c o q e2
    · trivial
  · rcases get e1 with q1 | rfl
    · rcases get e2 with q2 | rfl
      · exact R.ap i j c c' a q1 q2 m1 m2
      · cases m2
    · cases m1
  · rcases get e with q | rfl
    · exact R.fr i c a q m
    · cases m
theorem rel_end {B G G' H H' : Hp} {cs : List Cell} {vs : List V} {δ : DS} {σ : L2.St} (R0 : Rel K B G cs (vs.map some) H) (R : Rel K B G' δ σ H') (s : Same G G') (io : sameIo cs δ) : Rel K B G' (outC cs δ) (vs.map some) H' := by
  refine ⟨by rw [outC_len io, ← R0.len], R.sg, R.sb, R.dj, fun i c o e1 e2 => ?_, fun i j c c' a e1 e2 m1 m2 => ?_, fun i c a e m => ?_, R.tt⟩
  · obtain ⟨c0, e0, q⟩ := outC_at io e1
    have ok0 := R0.ok i c0 o e0 e2
    rcases q with ⟨h, rfl⟩ | ⟨a, xs, ys, rfl, rfl, ed⟩ | ⟨a, b, d, rfl, rfl, ed⟩ | ⟨a, xs, ys, rfl, rfl, ed⟩ | ⟨a, n, xs, ys, rfl, rfl, ed⟩
    · rcases h with ⟨x, rfl⟩ | rfl | ⟨a, ns, rfl⟩
      · obtain ⟨v, e, dn⟩ := ok0; exact ⟨v, e, dn.mono s⟩
      · trivial
      · exact ⟨ok0.1, s.seq ok0.2⟩
    · obtain ⟨o', _, _, r⟩ := R.at ed
      exact ⟨ok0.1, r⟩
    · obtain ⟨o', _, _, r⟩ := R.at ed
      exact ⟨ok0.1, r⟩
    · obtain ⟨o', _, _, r⟩ := R.at ed
      exact ⟨ok0.1, r⟩
    · obtain ⟨o', _, _, r⟩ := R.at ed
      exact ⟨ok0.1, r⟩
  · obtain ⟨c0, e0, q⟩ := outC_at io e1
    obtain ⟨c1, e3, q'⟩ := outC_at io e2
    have h1 : δ[i]? = some c := by
      rcases q with ⟨h, rfl⟩ | ⟨a, xs, ys, rfl, rfl, ed⟩ | ⟨a, b, d, rfl, rfl, ed⟩ | ⟨a, xs, ys, rfl, rfl, ed⟩ | ⟨a, n, xs, ys, rfl, rfl, ed⟩
      · rcases h with ⟨x, rfl⟩ | rfl | ⟨a, ns, rfl⟩ <;> cases m1
      · exact ed
      · exact ed
      · exact ed
      · exact ed
    have h2 : δ[j]? = some c' := by
      rcases q' with ⟨h, rfl⟩ | ⟨a, xs, ys, rfl, rfl, ed⟩ | ⟨a, b, d, rfl, rfl, ed⟩ | ⟨a, xs, ys, rfl, rfl, ed⟩ | ⟨a, n, xs, ys, rfl, rfl, ed⟩
      · rcases h with ⟨x, rfl⟩ | rfl | ⟨a, ns, rfl⟩ <;> cases m2
      · exact ed
      · exact ed
      · exact ed
      · exact ed
    exact R.ap i j c c' a h1 h2 m1 m2
  · obtain ⟨c0, e0, q⟩ := outC_at io e
    have h1 : δ[i]? = some c := by
      rcases q with ⟨h, rfl⟩ | ⟨a, xs, ys, rfl, rfl, ed⟩ | ⟨a, b, d, rfl, rfl, ed⟩ | ⟨a, xs, ys, rfl, rfl, ed⟩ | ⟨a, n, xs, ys, rfl, rfl, ed⟩
      · rcases h with ⟨x, rfl⟩ | rfl | ⟨a, ns, rfl⟩ <;> cases m
      · exact ed
      · exact ed
      · exact ed
      · exact ed
    exact R.fr i c a h1 m
/-- THE RULE: a def keeps its promise over data, by its body's reading -/
theorem okD {x qual : Str} {st : Stmt} {f : Addr} {fd : FuncData} {N ps : List Str} {k : Nat} {sp : DSp} {wb : DTS} (F : Fun K x qual st f fd) (S : FnScope N ps (defScope st)) (dl : ∀ cs R, sp cs R → cs.length = ps.length)
    (body : ∀ (cdv : Value) (A : Around) (outer : List Env) (s : Shared) (H : Hp) (E : XK), RoomG k (A.deeper (envOfC qual (defScope st) s.heap.objs.size f cdv)) → JSs (cxOf CX0 P w K mg base N qual (defScope st) f cdv A outer s H E).nox (defBody st) wb)
    (rd : ∀ cs R, sp cs R → wb (endsOf cs R) (start0 N.length cs)) : FnG P w K mg base CX0 (k + 1) f fd ps (liftSp K sp) := by
  obtain ⟨oc, od, kV, doc, pm, an, cdv, ct, osl, rfl, lk, hcd⟩ := F.ex
  refine fnG_of lk hcd S (fun vs H Q E ⟨B, G, cs, R, rel, hs, _⟩ => by rw [← dl cs R hs, ← rel.len, List.length_map]) fun A outer s H vs Q E hr ⟨B, G, cs, R, rel, hs, k⟩ => ?_
  refine ⟨_, (body cdv A outer s H E hr).nox, B, G, _, endsOf cs R, rel_start rel, rd cs R hs, ?_⟩
  exact ⟨fun σ' H' G' δ' ⟨io, r⟩ sG rel' => k _ H' G' _ _ r sG (rel_end rel rel' sG io) .non, fun v σ' H' G' x δ' ⟨io, r⟩ sG rel' dn => k v H' G' x _ r sG (rel_end rel rel' sG io) dn, fun _ _ _ _ h => h.elim, fun _ _ _ _ h => h.elim⟩
end

/-- own slots that are handed over (m: which), the other operands given away -/
def lkM : List Bool → List Opd → DS → (List Opd → DS → Prop) → Prop
  | _, [], δ, k => k [] δ
  | m, o :: os, δ, k => if m.headD false = true then lkM m.tail os δ fun r δ' => k (o :: r) δ' else lk o δ fun x δ1 => lkM m.tail os δ1 fun r δ' => k (.d x :: r) δ'
def cellOf (δ : DS) : Opd → Cell
  | .d x => .d x
  | .s i => (δ[i]?).getD .em
def putBack : List Opd → List Cell → DS → DS
  | .s i :: os, c :: cs, δ => putBack os cs (δ.set i c)
  | .d _ :: os, _ :: cs, δ => putBack os cs δ
  | _, _, δ => δ
def slotsOf : List Opd → List Nat
  | [] => []
  | .s i :: os => i :: slotsOf os
  | .d _ :: os => slotsOf os
def wCall (m : List Bool) (sp : DSp) (w : DA) : DE := fun δ R => w δ fun os δ1 => lkM m os δ1 fun os' δ2 => (slotsOf os').Nodup ∧ sp (os'.map (cellOf δ2)) fun x cs => R (.d x) (putBack os' cs δ2)
theorem lkM_ok {K : PySem.W.Frag} {B H : Hp} {σ : L2.St} : ∀ {m : List Bool} {vs : List V} {os : List Opd} {G : Hp} {δ : DS} {k : List Opd → DS → Prop}, Rel K B G δ σ H → OpdsOk K G σ vs os → lkM m os δ k → ∃ G' δ' os', k os' δ' ∧ Same G G' ∧ Rel K B G' δ' σ H ∧ OpdsOk K G' σ vs os'
  | _, _, [], G, δ, k, R, h, q => by cases h; exact ⟨G, δ, [], by simpa [lkM] using q, Same.refl _, R, .nil⟩
  | m, _, o :: os, G, δ, k, R, h, q => by
    cases h with
    | cons a b =>
      unfold lkM at q
      split at q
      · obtain ⟨G1, δ1, os', q1, s1, R1, ok1⟩ := lkM_ok R b q
        exact ⟨G1, δ1, o :: os', q1, s1, R1, .cons (a.mono s1) ok1⟩
      · obtain ⟨G1, δ1, x, q1, s1, R1, d1⟩ := lk_ok R a q
        obtain ⟨G2, δ2, os', q2, s2, R2, ok2⟩ := lkM_ok R1 (b.mono s1) q1
        exact ⟨G2, δ2, .d x :: os', q2, s1.trans s2, R2, .cons (Dn.mono s2 _ d1) ok2⟩
theorem mem_slots {os : List Opd} {i : Nat} : i ∈ slotsOf os ↔ ∃ j : Nat, os[j]? = some (Opd.s i) := by
  induction os with
  | nil => simp [slotsOf]
  | cons o os ih =>
    cases o with
    | d x =>
      simp only [slotsOf, ih]
      constructor
      · rintro ⟨j, e⟩; exact ⟨j + 1, by simpa using e⟩
      · rintro ⟨j, e⟩
        cases j with
        | zero => simp at e
        | succ j => exact ⟨j, by simpa using e⟩
    | s i' =>
      simp only [slotsOf, List.mem_cons, ih]
      constructor
      · rintro (rfl | ⟨j, e⟩)
        · exact ⟨0, rfl⟩
        · exact ⟨j + 1, by simpa using e⟩
      · rintro ⟨j, e⟩
        cases j with
        | zero => simp at e; exact .inl e.symm
        | succ j => exact .inr ⟨j, by simpa using e⟩
theorem slots_uniq {os : List Opd} (h : (slotsOf os).Nodup) : ∀ {j k i : Nat}, os[j]? = some (Opd.s i) → os[k]? = some (Opd.s i) → j = k := by
  induction os with
  | nil => intro j k i e; simp at e
  | cons o os ih =>
    intro j k i e1 e2
    have h' : (slotsOf os).Nodup := by
      cases o with
      | d x => exact h
      | s i' => exact (List.nodup_cons.mp h).2
    cases j with
    | zero =>
      cases k with
      | zero => rfl
      | succ k =>
        simp at e1; subst e1
        exact absurd (mem_slots.mpr ⟨k, by simpa using e2⟩) (List.nodup_cons.mp h).1
    | succ j =>
      cases k with
      | zero =>
        simp at e2; subst e2
        exact absurd (mem_slots.mpr ⟨j, by simpa using e1⟩) (List.nodup_cons.mp h).1
      | succ k => exact congrArg (· + 1) (ih (i := i) h' (by simpa using e1) (by simpa using e2))
theorem opds_at {K : PySem.W.Frag} {G : Hp} {σ : L2.St} : ∀ {vs : List V} {os : List Opd} {j : Nat} {o : Opd}, OpdsOk K G σ vs os → os[j]? = some o → ∃ v, vs[j]? = some v ∧ OpdOk K G σ v o
  | _, [], _, _, h, e => by simp at e
  | _, o :: os, 0, _, h, e => by cases h with | cons a b => simp at e; subst e; exact ⟨_, rfl, a⟩
  | _, o :: os, j + 1, x, h, e => by
    cases h with
    | cons a b =>
      obtain ⟨v, h1, h2⟩ := opds_at (j := j) b (by simpa using e)
      exact ⟨v, by simpa using h1, h2⟩
theorem opds_len {K : PySem.W.Frag} {G : Hp} {σ : L2.St} : ∀ {vs : List V} {os : List Opd}, OpdsOk K G σ vs os → vs.length = os.length
  | _, [], h => by cases h; rfl
  | _, o :: os, h => by cases h with | cons a b => simp [opds_len b]
/-- what a callee must leave as it is: what is kept for others, and the slots' own objects that aren't handed over -/
noncomputable def hold (B H : Hp) (δ : DS) (io : List Nat) : Hp := by
  classical
  exact fun a => if ∃ i c, δ[i]? = some c ∧ a ∈ c.fp ∧ i ∉ io then H a else B a
section
variable {K : PySem.W.Frag} {B G H : Hp} {δ : DS} {σ : L2.St} {io : List Nat} {a : Addr}
theorem hold_in (h : ∃ i c, δ[i]? = some c ∧ a ∈ c.fp ∧ i ∉ io) : hold B H δ io a = H a := by unfold hold; exact if_pos h
theorem hold_out (h : ¬ ∃ i c, δ[i]? = some c ∧ a ∈ c.fp ∧ i ∉ io) : hold B H δ io a = B a := by unfold hold; exact if_neg h
theorem call_rel {vs : List V} {os : List Opd} (R : Rel K B G δ σ H) (ok : OpdsOk K G σ vs os) (nd : (slotsOf os).Nodup) : Rel K (hold B H δ (slotsOf os)) G (os.map (cellOf δ)) (vs.map some) H := by
  have getc : ∀ {j : Nat} {c : Cell}, (os.map (cellOf δ))[j]? = some c → ∃ o, os[j]? = some o ∧ c = cellOf δ o := fun {j c} e => by
    rw [List.getElem?_map] at e
    cases h : os[j]? with
    | none => rw [h] at e; cases e
    | some o => rw [h] at e; cases e; exact ⟨o, rfl, rfl⟩
  have own : ∀ {j : Nat} {c : Cell} {a : Addr}, (os.map (cellOf δ))[j]? = some c → a ∈ c.fp → ∃ i, os[j]? = some (.s i) ∧ δ[i]? = some c := fun {j c a} e m => by
    obtain ⟨o, e1, rfl⟩ := getc e
    cases o with
    | d x => cases m
    | s i =>
      refine ⟨i, e1, ?_⟩
      have m' : a ∈ ((δ[i]?).getD Cell.em).fp := m
      show δ[i]? = some ((δ[i]?).getD Cell.em)
      cases h : δ[i]? with
      | none => rw [h] at m'; cases m'
      | some c => rfl
  refine ⟨by simp [opds_len ok], R.sg, fun a o e => ?_, fun a => ?_, fun j c o e1 e2 => ?_, fun j k c c' a e1 e2 m1 m2 => ?_, fun j c a e m => ?_, ⟨R.tt.t, ⟨fun a o e => ?_, R.tt.n.g⟩⟩⟩
  · by_cases h : ∃ i c, δ[i]? = some c ∧ a ∈ c.fp ∧ i ∉ slotsOf os
    · rw [hold_in h] at e; exact e
    · rw [hold_out h] at e; exact R.sb _ _ e
  · by_cases h : ∃ i c, δ[i]? = some c ∧ a ∈ c.fp ∧ i ∉ slotsOf os
    · obtain ⟨i, c, h1, h2, _⟩ := h
      exact .inl (R.fr i c a h1 h2).1
    · rw [hold_out h]; exact R.dj a
  · obtain ⟨od, e3, rfl⟩ := getc e1
    obtain ⟨v, e4, okv⟩ := opds_at ok e3
    rw [List.getElem?_map, e4] at e2
    cases e2
    cases od with
    | d x => exact ⟨v, rfl, okv⟩
    | s i =>
      have hσ : σ[i]? = some (some v) := okv
      show CellOk K G H ((δ[i]?).getD Cell.em) (some v)
      cases h : δ[i]? with
      | none => trivial
      | some c => exact R.ok i c _ h hσ
  · obtain ⟨i, h1, h2⟩ := own e1 m1
    obtain ⟨i', h3, h4⟩ := own e2 m2
    have := R.ap i i' c c' a h2 h4 m1 m2
    subst this
    exact slots_uniq nd h1 h3
  · obtain ⟨i, h1, h2⟩ := own e m
    obtain ⟨f1, f2⟩ := R.fr i c a h2 m
    refine ⟨f1, ?_⟩
    rw [hold_out]
    · exact f2
    · rintro ⟨i', c', h3, h4, h5⟩
      have := R.ap i i' c c' a h2 h3 m h4
      subst this
      exact h5 (mem_slots.mpr ⟨j, h1⟩)
  · by_cases h : ∃ i c, δ[i]? = some c ∧ a ∈ c.fp ∧ i ∉ slotsOf os
    · rw [hold_in h] at e
      obtain ⟨i, c, h1, h2, _⟩ := h
      obtain ⟨ov, _, okc⟩ := R.at h1
      exact cell_te okc h2 o e
    · rw [hold_out h] at e; exact R.tt.n.b _ _ e
theorem putBack_at : ∀ {os : List Opd} {cs : List Cell} {δ : DS} {i : Nat} {c : Cell}, os.length = cs.length → (slotsOf os).Nodup → (putBack os cs δ)[i]? = some c → (i ∉ slotsOf os ∧ δ[i]? = some c) ∨ ∃ j : Nat, os[j]? = some (Opd.s i) ∧ cs[j]? = some c
  | [], cs, δ, i, c, hl, nd, h => by unfold putBack at h; exact .inl ⟨(fun m => nomatch m), h⟩
  | o :: os, [], δ, i, c, hl, nd, h => by simp at hl
  | .d x :: os, c0 :: cs, δ, i, c, hl, nd, h => by
    rcases putBack_at (os := os) (cs := cs) (by simpa using hl) nd (by simpa [putBack] using h) with ⟨h1, h2⟩ | ⟨j, h1, h2⟩
    · exact .inl ⟨h1, h2⟩
    · exact .inr ⟨j + 1, by simpa using h1, by simpa using h2⟩
  | .s i0 :: os, c0 :: cs, δ, i, c, hl, nd, h => by
    rcases putBack_at (os := os) (cs := cs) (by simpa using hl) (List.nodup_cons.mp nd).2 (by simpa [putBack] using h) with ⟨h1, h2⟩ | ⟨j, h1, h2⟩
    · by_cases hi : i0 = i
      · subst hi
        rw [List.getElem?_set] at h2
        simp only [if_true] at h2
        split at h2
        · cases h2; exact .inr ⟨0, rfl, rfl⟩
        · cases h2
      · rw [List.getElem?_set_ne hi] at h2
        exact .inl ⟨fun m => by rcases List.mem_cons.mp m with z | z; exact hi z.symm; exact h1 z, h2⟩
    · exact .inr ⟨j + 1, by simpa using h1, by simpa using h2⟩
theorem putBack_len : ∀ {os : List Opd} {cs : List Cell} {δ : DS}, (putBack os cs δ).length = δ.length
  | [], cs, δ => by simp [putBack]
  | .d _ :: os, [], δ => by rfl
  | .s _ :: os, [], δ => by rfl
  | .d _ :: os, c :: cs, δ => by simp [putBack, putBack_len]
  | .s _ :: os, c :: cs, δ => by simp [putBack, putBack_len]
theorem call_back {G' H' : Hp} {vs : List V} {os : List Opd} {cs : List Cell} (R : Rel K B G δ σ H) (ok : OpdsOk K G σ vs os) (nd : (slotsOf os).Nodup) (s : Same G G') (R' : Rel K (hold B H δ (slotsOf os)) G' cs (vs.map some) H') : Rel K B G' (putBack os cs δ) σ H' := by
  have hlen : os.length = cs.length := by rw [← opds_len ok, ← R'.len, List.length_map]
  have sb : Same B H' := fun a o e => by
    by_cases h : ∃ i c, δ[i]? = some c ∧ a ∈ c.fp ∧ i ∉ slotsOf os
    · obtain ⟨i, c, h1, h2, _⟩ := h
      rw [(R.fr i c a h1 h2).2] at e; cases e
    · exact R'.sb a o (by rw [hold_out h]; exact e)
  have keep : ∀ {i : Nat} {c : Cell} {a : Addr}, i ∉ slotsOf os → δ[i]? = some c → a ∈ c.fp → H' a = H a ∧ hold B H δ (slotsOf os) a = H a := fun {i c a} h1 h2 h3 => by
    have e := hold_in (B := B) (H := H) ⟨i, c, h2, h3, h1⟩
    obtain ⟨o, eo⟩ := R.tr h2 h3
    exact ⟨by rw [R'.sb a o (by rw [e]; exact eo), eo], e⟩
  refine ⟨by rw [putBack_len]; exact R.len, R'.sg, sb, fun a => ?_, fun i c o e1 e2 => ?_, fun i k c c' a e1 e2 m1 m2 => ?_, fun i c a e m => ?_, ⟨R'.tt.t, ⟨R.tt.n.b, R'.tt.n.g⟩⟩⟩
  · by_cases h : ∃ i c, δ[i]? = some c ∧ a ∈ c.fp ∧ i ∉ slotsOf os
    · obtain ⟨i, c, h1, h2, _⟩ := h
      exact .inr (R.fr i c a h1 h2).2
    · have := R'.dj a
      rw [hold_out h] at this; exact this
  · rcases putBack_at hlen nd e1 with ⟨h1, h2⟩ | ⟨j, h1, h2⟩
    · exact (R.ok i c o h2 e2).stay s fun a m => (keep h1 h2 m).1
    · obtain ⟨v, h3, h4⟩ := opds_at ok h1
      have h5 : σ[i]? = some (some v) := h4
      rw [h5] at e2; cases e2
      exact R'.ok j c (some v) h2 (by rw [List.getElem?_map, h3]; rfl)
  · rcases putBack_at hlen nd e1 with ⟨h1, h2⟩ | ⟨j, h1, h2⟩
    · rcases putBack_at hlen nd e2 with ⟨h3, h4⟩ | ⟨j', h3, h4⟩
      · exact R.ap i k c c' a h2 h4 m1 m2
      · obtain ⟨_, f2⟩ := R'.fr j' c' a h4 m2
        rw [(keep h1 h2 m1).2] at f2
        obtain ⟨o, eo⟩ := R.tr h2 m1
        rw [eo] at f2; cases f2
    · rcases putBack_at hlen nd e2 with ⟨h3, h4⟩ | ⟨j', h3, h4⟩
      · obtain ⟨_, f2⟩ := R'.fr j c a h2 m1
        rw [(keep h3 h4 m2).2] at f2
        obtain ⟨o, eo⟩ := R.tr h4 m2
        rw [eo] at f2; cases f2
      · have := R'.ap j j' c c' a h2 h4 m1 m2
        subst this
        rw [h1] at h3; cases h3; rfl
  · rcases putBack_at hlen nd e with ⟨h1, h2⟩ | ⟨j, h1, h2⟩
    · obtain ⟨f1, f2⟩ := R.fr i c a h2 m
      refine ⟨?_, f2⟩
      rcases R'.dj a with z | z
      · exact z
      · rw [(keep h1 h2 m).2] at z
        obtain ⟨o, eo⟩ := R.tr h2 m
        rw [eo] at z; cases z
    · obtain ⟨f1, f2⟩ := R'.fr j c a h2 m
      refine ⟨f1, ?_⟩
      by_cases h : ∃ i c, δ[i]? = some c ∧ a ∈ c.fp ∧ i ∉ slotsOf os
      · obtain ⟨i', c', h3, h4, _⟩ := h
        exact (R.fr i' c' a h3 h4).2
      · rw [hold_out h] at f2; exact f2
end
section
variable {X : Cx} {CX : CXT} {k : Nat} {f : Addr} {fd : FuncData} {ps : List Str} {x : Str} {p pos : Pos} {e : Expr} {es : List Expr}
theorem run_fnG {sp : Sp} {E : XK} {pins : List (Addr × Obj)} {σ : L2.St} {H : Hp} {s : Shared} {Q : VK} {us : List Value} {vs : List V} (F : FnG X.prog X.w X.K X.mg X.base CX k f fd ps sp) (hr : RoomG k X.A) (hb : Binds X.K fd ps []) (hx : Passes CX X E)
    (I : Inv X pins σ H s) (r : Vals vs us) (h : sp vs H Q E) : wpAny (model X.prog X.w) X.A (call (.ref f) us) (EP X pins σ Q) X.xe s := by
  have many : (us ++ []).length = ps.length := (List.append_nil us).symm ▸ r.length.symm.trans (F.len _ _ _ _ h)
  have bound : BindsTo s fd ⟨us, []⟩ (ps.zip us) := by have := hb s us I.kIn many; rwa [List.append_nil] at this
  refine wpAny_call (codeAny_mono (F.run X.A X.stack s H ⟨us, []⟩ us vs Q E hr I.env0 bound r h) ?_)
  rintro (err | _ | _ | _ | u) z back <;> first | exact hx pins σ H s err z I back | exact False.elim back | exact I.after back
theorem pe_callG {sp : Sp} {E : XK} {t : TA} (F : FnG X.prog X.w X.K X.mg X.base CX k f fd ps sp) (hr : RoomG k X.A) (hg : Gl X x) (hm : X.mg x = some (.ref f)) (hk : PySem.W.keepIn X.K (.ref f) = true) (hb : Binds X.K fd ps []) (hx : Passes CX X E)
    (ha : PA X (e :: es) t) (hdb : (x == ("__debug__" : Str)) = false := by decide) (he : starEach (e :: es) X.env = (false, eval e X.env) :: starEach es X.env := by rfl) (hpl : (backTo pos (starEach es X.env)).any (·.1) = false := by rfl) : PE X (.Call (.Name x p) (e :: es) [] pos) (tCall sp [] E t) := by
  exact ⟨fun pins s σ H Q I h => wpAny_Call_Name_kw (ld_glob I hg hm (PySem.W.callWith_K (h₀ := X.base) I.ok.mod.kin hk (wpAny_mono (ha.run pos pins s σ H _ I h)
    (fun us z ⟨vs, H1, I1, r, q⟩ => ⟨I1.kIn, run_fnG F hr hb hx I1 r (by have q : sp (vs ++ []) H1 Q E := q; rwa [List.append_nil] at q)⟩) fun _ _ z => z) he hpl) hdb)⟩
theorem je_call {m : List Bool} {sp : DSp} {w : DA} (F : FnG X.prog X.w X.K X.mg X.base CX0 k f fd ps (liftSp X.K sp)) (hr : RoomG k X.A) (hg : Gl X x) (hm : X.mg x = some (.ref f)) (hk : PySem.W.keepIn X.K (.ref f) = true) (hb : Binds X.K fd ps [])
    (ha : JA X (e :: es) w) (hdb : (x == ("__debug__" : Str)) = false := by decide) (he : starEach (e :: es) X.env = (false, eval e X.env) :: starEach es X.env := by rfl) (hpl : (backTo pos (starEach es X.env)).any (·.1) = false := by rfl) : JE X (.Call (.Name x p) (e :: es) [] pos) (wCall m sp w) :=
  pe_le (pe_callG (E := E0) F hr hg hm hk hb pass0 ha hdb he hpl) fun pins s σ H Q I ⟨B, G, δ, R, rel, hw, k⟩ => ⟨B, G, δ, _, rel, hw, fun vs H1 G1 os δ1 r1 s1 rel1 ok1 => by
    obtain ⟨G2, δ2, os', ⟨nd, q⟩, s2, rel2, ok2⟩ := lkM_ok rel1 ok1 r1
    rw [List.append_nil]
    exact ⟨_, G2, _, _, call_rel rel2 ok2 nd, q, fun v H' G' z cs r s3 rel3 dn => k v H' G' _ _ r (s1.trans (s2.trans s3)) (call_back rel2 ok2 nd s3 rel3) dn⟩⟩
end
end DL
set_option Elab.async false
set_option linter.all false
set_option maxRecDepth 100000
set_option maxHeartbeats 4000000
namespace DL
open PySem PySem.Spec PyProof.Rows L2
variable [Tb]

inductive Src where
  | l (a : Addr)
  | t (a : Addr)
def Src.ad : Src → Addr
  | .l a => a
  | .t a => a
def Src.is (h : Heap) (its : Array Value) : Src → Prop
  | .l a => h.IsList a its
  | .t a => h.IsTuple a its
def Src.iter (h : Heap) (it : Addr) (n : Nat) : Src → Prop
  | .l a => h.IsListIter it a n
  | .t a => h.IsTupleIter it a n
def Src.ob : Src → Obj
  | .l a => { cls := .type "list_iterator", data := .fields #[.ref a, .int 0 0] }
  | .t a => { cls := .type "tuple_iterator", data := .fields #[.ref a, .int 0 0] }
def SrcOk (K : PySem.W.Frag) (H : Hp) (S : Src) (xs : List V) : Prop := match S with
  | .l a => SqL K H a xs
  | .t a => SqT K H a xs
theorem Src.draws {prog : Program} {w : World} {A : Around} (hh : A.handled = none) (S : Src) (it : Addr) (hne : S.ad ≠ it) (items : Array Value) :
    Draws prog w A it [it, S.ad] items.size (fun i v => items[i]? = some v) (fun i h => S.iter h it i ∧ S.is h items) := by
  cases S with
  | l a => exact Draws.list hh it a hne items
  | t a => exact Draws.tuple hh it a hne items
theorem Src.begins (S : Src) (items : Array Value) : Begins (.ref S.ad) S.ob fun h => S.is h items := by
  cases S with
  | l a => exact begins_list a items
  | t a => exact begins_tuple a items
theorem Src.lt {S : Src} {h : Heap} {its : Array Value} (x : S.is h its) : S.ad < h.objs.size := by
  cases S with
  | l a => obtain ⟨o, e, _⟩ := x; exact Heap.lt_size e
  | t a => obtain ⟨o, e, _⟩ := x; exact Heap.lt_size e
theorem Src.iter_keep {S : Src} {h h' : Heap} {it : Addr} {n : Nat} (x : S.iter h it n) (k : ∀ o, h.get? it = some o → h'.get? it = some o) : S.iter h' it n := by
  cases S with
  | l a => exact Heap.IsListIter.at x k
  | t a => exact Heap.IsTupleIter.at x k
theorem Src.iter_of {S : Src} {h : Heap} {it : Addr} (e : h.get? it = some S.ob) : S.iter h it 0 := by
  cases S with
  | l a => exact ⟨_, e, rfl, rfl⟩
  | t a => exact ⟨_, e, rfl, rfl⟩
theorem Src.iter_obj {S : Src} {h : Heap} {it : Addr} {n : Nat} (x : S.iter h it n) : ∃ o, h.get? it = some o ∧ ∀ v, o.data ≠ .cell v := by
  cases S with
  | l a => obtain ⟨o, e, c, d⟩ := x; exact ⟨o, e, fun v z => by rw [d] at z; cases z⟩
  | t a => obtain ⟨o, e, c, d⟩ := x; exact ⟨o, e, fun v z => by rw [d] at z; cases z⟩
theorem src_get {X : Cx} {pins : List (Addr × Obj)} {σ : L2.St} {H : Hp} {s : Shared} {S : Src} {xs : List V} (I : Inv X pins σ H s) (h : SrcOk X.K H S xs) : ∃ its : List Value, Vals xs its ∧ S.is s.heap its.toArray ∧ xs.length ≤ sizeLine := by
  cases S with
  | l a => obtain ⟨its, rv, p, hz⟩ := I.list h; exact ⟨its, rv, p.isList, hz⟩
  | t a => obtain ⟨its, rv, p, hz⟩ := I.tuple h; exact ⟨its, rv, p, hz⟩
theorem src_inj {X : Cx} {pins : List (Addr × Obj)} {σ : L2.St} {H : Hp} {s : Shared} {S : Src} {xs ys : List V} (I : Inv X pins σ H s) (h : SrcOk X.K H S xs) (h' : SrcOk X.K H S ys) : xs = ys := by
  cases S with
  | l a => exact I.list_inj h h'
  | t a => exact I.tuple_inj h h'
/-- a footprint's objects are there, and none is a cell -/
def Sits (ch : List Addr) (h : Heap) : Prop := ∀ b ∈ ch, ∃ o, h.get? b = some o ∧ ∀ v, o.data ≠ .cell v
theorem Sits.nil {h : Heap} : Sits [] h := fun _ m => nomatch m
theorem Sits.put {b : Addr} {ch : List Addr} {h : Heap} {o : Obj} (e : h.get? b = some o) (n : ∀ v, o.data ≠ .cell v) (t : Sits ch h) : Sits (b :: ch) h :=
  List.forall_mem_cons.mpr ⟨⟨o, e, n⟩, t⟩
theorem Sits.src {S : Src} {b : Addr} {ch : List Addr} {h : Heap} {n : Nat} (e : S.iter h b n) (t : Sits ch h) : Sits (b :: ch) h :=
  List.forall_mem_cons.mpr ⟨Src.iter_obj e, t⟩
/-- a new tuple lies on top, and of what was there only the footprint has turned -/
theorem row_laid {X : Cx} {pins : List (Addr × Obj)} {σ : L2.St} {H : Hp} {s : Shared} {ch : List Addr} {h' : Heap} {tk : Nat} {row : List V} {us : List Value}
    (I : Inv X pins σ H s) (own : ∀ b ∈ ch, FpOk X pins H b) (sit : Sits ch s.heap) (same : ∀ b o, b ∉ ch → s.heap.get? b = some o → h'.get? b = some o)
    (short : row.length ≤ sizeLine) (r : Vals row us) (top : h'.get? s.heap.objs.size = some { cls := .type "tuple", data := .seq us.toArray }) :
    Inv X pins σ (upd H s.heap.objs.size (.tup row)) { s with heap := h', toks := tk } ∧ H s.heap.objs.size = none ∧ ∀ b ∈ ch, upd H s.heap.objs.size (.tup row) b = none := by
  refine ⟨I.turnedNew same own (Nat.le_refl _) ⟨short, us, r, _, top, rfl, _, rfl⟩, I.hok.fresh (Nat.le_refl _), fun b m => ?_⟩
  obtain ⟨o, at_b, _⟩ := sit b m
  exact (upd_ne (Nat.ne_of_lt (Heap.lt_size at_b))).trans (own b m).1
/-- what lies above the heap's end is nobody's -/
theorem all_new {X : Cx} {pins : List (Addr × Obj)} {σ : L2.St} {H : Hp} {s : Shared} (I : Inv X pins σ H s) (ks : List Nat) : ∀ b ∈ ks.map (s.heap.objs.size + ·), FpOk X pins H b := fun b m => by
  obtain ⟨k, _, rfl⟩ := List.mem_map.mp m
  exact I.fpOk (Nat.le_add_right _ k) (I.hok.fresh (Nat.le_add_right _ k))
/-- a row's item of a source: its value, and where it stands -/
theorem src_item {X : Cx} {pins : List (Addr × Obj)} {σ : L2.St} {H : Hp} {s : Shared} {S : Src} {xs : List V} {i : Nat} {x : V} (I : Inv X pins σ H s) (h : SrcOk X.K H S xs) (e : xs[i]? = some x) :
    ∃ (its : Array Value) (u : Value), S.is s.heap its ∧ i < its.size ∧ (∀ y, its[i]? = some y → y = u) ∧ RelV x u ∧ ∀ ys, SrcOk X.K H S ys → ys[i]? = some x := by
  obtain ⟨its, rv, at_s, _⟩ := src_get I h
  obtain ⟨u, eu, ru⟩ := rv.get e
  refine ⟨its.toArray, u, at_s, ?_, fun y ey => ?_, ru, fun ys h2 => src_inj I h2 h ▸ e⟩
  · rw [List.size_toArray]; exact (List.getElem?_eq_some_iff.mp eu).1
  · rw [List.getElem?_toArray, eu] at ey; exact (Option.some.inj ey).symm
theorem src_all {X : Cx} {pins : List (Addr × Obj)} {σ : L2.St} {H : Hp} {s : Shared} {S : Src} {xs : List V} (I : Inv X pins σ H s) (h : SrcOk X.K H S xs) :
    ∃ its : Array Value, S.is s.heap its ∧ its.size = xs.length := by
  obtain ⟨its, rv, at_s, _⟩ := src_get I h
  exact ⟨its.toArray, at_s, by rw [List.size_toArray]; exact rv.length.symm⟩
/-- a built-in class is called by its name, on what the operands yield -/
theorem pi_class {X : Cx} {tg e : Expr} {es : List Expr} {ta : TA} {p pos : Pos} {x : Str} {T : String} {W : List V → Hp → (It → Hp → Prop) → Prop} (hg : Gl X x) (hm : X.mg x = none) (hb : bootBuiltins x = some (.type T)) (ha : PA X (e :: es) ta)
    (hs : starEach (e :: es) X.env = (false, eval e X.env) :: starEach es X.env) (hpl : (backTo pos (starEach es X.env)).any (·.1) = false) (hx : x ≠ "__name__") (hd : (x == ("__debug__" : Str)) = false)
    (k : ∀ (pins : List (Addr × Obj)) (s : Shared) (σ : L2.St) (H : Hp) (R : It → Hp → Prop) (vs : List V) (us : List Value), Inv X pins σ H s → Vals vs us → W vs H R →
      wpAny (model X.prog X.w) X.A (call (.type T) us) (fun v s1 => wpAny (model X.prog X.w) X.A (pyIter v) (PIE X pins σ tg R) X.xe s1) X.xe s) :
    PI X tg (.Call (.Name x p) (e :: es) [] pos) (fun σ H R => ta σ H fun vs H1 => W vs H1 R) where
  run pins s σ H R I h := Call_ (ld_blt I hg hm hb (PyProof.Rows.callWith_type1 (wpAny_mono (ha.run pos pins s σ H _ I h)
    (fun us _ ⟨vs, H1, I1, r, q⟩ => k pins _ σ H1 R vs us I1 r q) fun _ _ z => z) hs hpl) hx hd)

def Ien (K : PySem.W.Frag) (S : Src) : It :=
  ⟨fun i H => ∃ xs x, SrcOk K H S xs ∧ xs[i]? = some x,
   fun i H v H' => ∃ (p : Addr) (x : V), v = .ref p ∧ H p = none ∧ H' = upd H p (.tup [.int (i : Nat), x]) ∧ ∀ xs, SrcOk K H S xs → xs[i]? = some x,
   fun i H => ∃ xs, SrcOk K H S xs ∧ i = xs.length⟩
theorem turn_en {P : Program} {w : World} {K : PySem.W.Frag} {elts : List Expr} {kk : Nat} {tpos : Pos} {S : Src} {e it : Addr} (n1 : S.ad ≠ it) (n2 : e ≠ it) (n3 : e ≠ S.ad) :
    Turn P w K (.Tuple elts kk tpos) (Ien K S) [e, it] e (fun i h => (∃ old, IsEnum h e it ((i : Nat) : Int) old) ∧ S.iter h it i) := by
  have sit : ∀ {i : Nat} {h : Heap} {c : Int} {old : Value}, IsEnum h e it c old → S.iter h it i → Sits [e, it] h := fun he h1 => .put he nofun (.src h1 .nil)
  refine ⟨List.mem_cons_self, fun i h ⟨⟨_, he⟩, h1⟩ => sit he h1, ?_, ?_, ?_, fun _ _ _ _ _ ⟨⟨_, he⟩, _⟩ => wpAny_pyIter_enum he⟩
  · rintro i h h' ⟨⟨old, he⟩, h1⟩ k
    exact ⟨⟨old, k e (by simp) _ he⟩, Src.iter_keep h1 (k it (by simp))⟩
  · rintro X rfl rfl rfl hc i pins s σ H E I own ⟨⟨old, he⟩, h1⟩ ⟨xs, x, ox, ex⟩
    obtain ⟨as, u1, at1, l1, val1, r1, same1⟩ := src_item I ox ex
    refine wpAny_pyNext_enum_itemD (Src.draws (A := X.A.in1) (I.ok.hd hc) S it n1 as) he ⟨h1, at1⟩ l1 n2 (by simp [n2, n3]) fun y g tk ey go g1 top _ kept => ⟨_, rfl, ?_⟩
    cases val1 _ ey
    refine wpAny_letOwnedTupleGo_enum (s := { s with heap := g, toks := tk + 1 }) go fun g' ge' but => ?_
    have old' : e ≠ s.heap.objs.size := Nat.ne_of_lt (Heap.lt_size he)
    obtain ⟨I', new, none'⟩ := row_laid (h' := g') (tk := tk + 1) (row := [.int (i : Nat), x]) I own (sit he h1)
      (fun c o m q => by
        simp only [List.mem_cons, List.not_mem_nil, or_false, not_or] at m
        exact (but.2 c m.1).trans (kept c o m.1 m.2 q))
      (show 2 ≤ sizeLine by decide) (.cons ⟨tk, rfl⟩ (.cons r1 .nil)) ((but.2 _ old'.symm).trans top)
    exact ⟨.ref s.heap.objs.size, _, I', rfl, ⟨_, x, rfl, new, rfl, same1⟩, ⟨⟨_, by rw [Int.natCast_succ]; exact ge'⟩, Src.iter_keep g1.1 fun o q => (but.2 it n2.symm).trans q⟩, none'⟩
  · rintro X rfl rfl rfl hc i pins s σ H E I own ⟨⟨old, he⟩, h1⟩ ⟨xs, ox, rfl⟩
    obtain ⟨as, at1, s1⟩ := src_all I ox
    rw [← s1] at h1
    refine wpAny_pyNext_enum_endD (Src.draws (A := X.A.in1) (I.ok.hd hc) S it n1 as) he ⟨h1, at1⟩ fun g kept => ⟨rfl, ?_⟩
    exact I.turnedL (t' := s.toks) (fun c o m => kept c o fun z => m (z ▸ List.mem_cons_of_mem _ List.mem_cons_self)) own
/-- enumerate of one thing: the class's own make, from any thing that can be walked along -/
theorem enum_made {v : Value} {o : Obj} {Q : Heap → Prop} (B : Begins v o Q) :
    Meets (Builtin.«enumerate.__new__» ⟨[.type "enumerate", v], []⟩) (fun _ R s => Q s.heap ∧
      R (.ok (.ret (.ref (s.heap.push o).objs.size))) { s with heap := (s.heap.push o).push { cls := .type "enumerate", data := .fields #[.none, .bool false, .ref s.heap.objs.size, rawInt 0, .none, .none] } }) := by
  refine .of_wp fun prog w A R => ?_
  rintro ⟨hp, gs, dr, tk, os⟩ ⟨at_v, h⟩
  have begun {A' : Around} {E G : Value → Shared → Prop} : G (.ref hp.objs.size) ⟨hp.push o, gs, dr, tk, os⟩ → wpAny (model prog w) A' (pyIter v) G E ⟨hp, gs, dr, tk, os⟩ := B.iter prog w _ _ ⟨hp, gs, dr, tk, os⟩ _ at_v
  have sub := sub_enumerate
  wp_walk using begun
  refine wpAny_stack_any fun _ => wpAny_pure ?_
  split
  next c _ _ _ _ _ => cases (c == Value.type "enumerate") <;> (wp_walk using begun; exact ⟨_, rfl, h⟩)
  next => wp_walk using begun; exact ⟨_, rfl, h⟩
theorem enum_starts {prog : Program} {w : World} {A : Around} {E : Value → Shared → Prop} {s : Shared} {v : Value} {o : Obj} {P : Heap → Prop} {Q : Value → Shared → Prop} (B : Begins v o P) (at_v : P s.heap)
    (k : ∀ h', IsEnum h' (s.heap.objs.size + 1) s.heap.objs.size 0 .none → h'.get? s.heap.objs.size = some o → (∀ b u, s.heap.get? b = some u → h'.get? b = some u) → Q (.ref (s.heap.objs.size + 1)) { s with heap := h' }) :
    wpAny (model prog w) A (call (.type "enumerate") [v]) Q E s := by
  refine callType_new F.called_enumerate (by decide) (F.typeCall_enumerate_1 _) (F.newCall_enumerate_1 _) (F.args_object_init_2 · _) F.entry_enumerate_new (enum_made B) ⟨at_v, ?_⟩
  have up : (s.heap.push o).objs.size = s.heap.objs.size + 1 := Heap.size_push _ _
  have at_e := Heap.get?_push_size (s.heap.push o) (o := { cls := .type "enumerate", data := .fields #[.none, .bool false, .ref s.heap.objs.size, rawInt 0, .none, .none] }) rfl
  rw [up] at at_e
  show _ ∧ _
  rw [up]
  exact ⟨⟨_, at_e, rfl⟩, k _ at_e (Heap.get?_push_of_some _ (Heap.get?_push_size _ B.free)) fun b u q => Heap.get?_push_of_some _ (Heap.get?_push_of_some _ q)⟩
def iEn (K : PySem.W.Frag) (ta : TA) : TI := fun σ H R => ta σ H fun vs H1 => ∃ S xs, vs = [.ref S.ad] ∧ SrcOk K H1 S xs ∧ (xs.length ≤ sizeLine → R (Ien K S) H1)
theorem pi_en {X : Cx} {e : Expr} {ta : TA} {p pos tpos : Pos} {elts : List Expr} {kk : Nat} (hg : Gl X "enumerate") (hm : X.mg "enumerate" = none) (ha : PA X [e] ta) (hs : starEach [e] X.env = [(false, eval e X.env)] := by rfl) :
    PI X (.Tuple elts kk tpos) (.Call (.Name "enumerate" p) [e] [] pos) (iEn X.K ta) :=
  pi_class hg hm boot_enumerate ha hs rfl (by decide) (by decide) fun pins s σ H R vs us I r ⟨S, xs, ev, ox, q⟩ => by
    subst ev
    obtain _ | ⟨rfl, _ | _⟩ := r
    obtain ⟨as, at1, _⟩ := src_all I ox
    obtain ⟨_, _, _, z1⟩ := src_get I ox
    have b1 := Src.lt at1
    exact enum_starts (Src.begins S as) at1 fun h' he h1 kept => wpAny_pyIter_enum he ⟨_, _, _, _, H, rfl, I.kept (t' := s.toks) kept,
      turn_en (Nat.ne_of_lt b1) (Nat.succ_ne_self _) (Nat.ne_of_gt (Nat.lt_succ_of_lt b1)), ⟨⟨_, he⟩, Src.iter_of h1⟩, all_new I [1, 0], q z1⟩

def seqOf : PyData → Option (List PyData)
  | .list xs => some xs
  | .tuple xs => some xs
  | _ => none
def triosD : List PyData → List PyData → List PyData → List PyData
  | x :: xs, y :: ys, z :: zs => .tuple [x, y, z] :: triosD xs ys zs
  | _, _, _ => []
def numbered : Nat → List PyData → List PyData
  | _, [] => []
  | n, x :: xs => .tuple [.int (n : Int), x] :: numbered (n + 1) xs
theorem numbered_len : ∀ n xs, (numbered n xs).length = xs.length
  | _, [] => rfl
  | n, x :: xs => by simp [numbered, numbered_len (n + 1) xs]
theorem numbered_get : ∀ (n : Nat) (xs : List PyData) (i : Nat), (numbered n xs)[i]? = (xs[i]?).map fun x => .tuple [.int ((n + i : Nat) : Int), x]
  | _, [], i => by simp [numbered]
  | n, x :: xs, 0 => by simp [numbered]
  | n, x :: xs, i + 1 => by
    simp only [numbered, List.getElem?_cons_succ, numbered_get (n + 1) xs i]
    rw [show n + 1 + i = n + (i + 1) by omega]
theorem dn_src {K : PySem.W.Frag} {G : Hp} {v : V} {d : PyData} {xs : List PyData} (dn : Dn K G v d) (h : seqOf d = some xs) : ∃ S vs, v = .ref (Src.ad S) ∧ DnL K G vs xs ∧ ∀ G2 H, Same G G2 → Same G2 H → SrcOk K H S vs := by
  cases dn with
  | lst hs t => cases h; exact ⟨.l _, _, rfl, t, fun G2 H s1 s2 => SqL.of (s2 _ _ (s1 _ _ hs))⟩
  | tup hs t => cases h; exact ⟨.t _, _, rfl, t, fun G2 H s1 s2 => sqT_mono s2 (sqT_mono s1 (SqT.of hs))⟩
  | _ => cases h
theorem pair_new {K : PySem.W.Frag} {B G H : Hp} {δ : DS} {σ : L2.St} {p : Addr} {xs : List V} {ds : List PyData} (rel : Rel K B G δ σ H) (np : H p = none) (t : DnL K G xs ds) : ∃ G3, Same G G3 ∧ Rel K B G3 δ σ (upd H p (.tup xs)) ∧ Dn K G3 (.ref p) (.tuple ds) := by
  obtain ⟨rel3, s3⟩ := rel.laid (o := .tup xs) np
  exact ⟨_, s3, rel3, Dn.tup upd_same (t.mono s3)⟩
theorem walk_en {K : PySem.W.Frag} {G : Hp} {S : Src} {vs : List V} {xs : List PyData} (h1 : ∀ G2 H, Same G G2 → Same G2 H → SrcOk K H S vs) (t1 : DnL K G vs xs) : WalkD K (Ien K S) G (numbered 0 xs) := fun B G2 δ σ H s rel => by
  have q1 := h1 G2 H s rel.sg
  have l1 := t1.len
  rw [numbered_len]
  refine ⟨fun i hi => ⟨vs, vs[i]'(by omega), q1, List.getElem?_eq_getElem (by omega)⟩, ⟨vs, q1, by omega⟩, fun i x d H' hd y => ?_⟩
  obtain ⟨p, x, rfl, np, rfl, y1⟩ := y
  rw [numbered_get] at hd
  cases e1 : xs[i]? with
  | none => rw [e1] at hd; cases hd
  | some d1 =>
    rw [e1] at hd
    cases hd
    obtain ⟨v, hv, dv⟩ := t1.get e1
    rw [y1 vs q1] at hv; cases hv
    refine pair_new rel np (.cons ?_ (.cons (dv.mono s) .nil))
    rw [Nat.zero_add]; exact Dn.int _
def iZip2 (w : DA) : DL := fun δ R => w δ fun os δ1 => lkL os δ1 fun ds δ2 => match ds with
  | [a, b] => ∃ xs ys, seqOf a = some xs ∧ seqOf b = some ys ∧ R (pairsD xs ys) δ2
  | _ => False
def iZip3 (w : DA) : DL := fun δ R => w δ fun os δ1 => lkL os δ1 fun ds δ2 => match ds with
  | [a, b, c] => ∃ xs ys zs, seqOf a = some xs ∧ seqOf b = some ys ∧ seqOf c = some zs ∧ R (triosD xs ys zs) δ2
  | _ => False
def iEnumD (w : DA) : DL := fun δ R => w δ fun os δ1 => lkL os δ1 fun ds δ2 => match ds with
  | [a] => ∃ xs, seqOf a = some xs ∧ R (numbered 0 xs) δ2
  | _ => False
theorem DnL.one {K : PySem.W.Frag} {G : Hp} {vs : List V} {d : PyData} (h : DnL K G vs [d]) : ∃ v, vs = [v] ∧ Dn K G v d := by
  cases h with | cons a b => cases b; exact ⟨_, rfl, a⟩
theorem DnL.two {K : PySem.W.Frag} {G : Hp} {vs : List V} {d e : PyData} (h : DnL K G vs [d, e]) : ∃ v u, vs = [v, u] ∧ Dn K G v d ∧ Dn K G u e := by
  cases h with | cons a b => obtain ⟨u, rfl, c⟩ := b.one; exact ⟨_, _, rfl, a, c⟩
section
variable {X : Cx} {pos tpos : Pos} {elts : List Expr} {kk : Nat} {p : Pos}
theorem ji_enum {e : Expr} {w : DA} (hg : Gl X "enumerate") (hm : X.mg "enumerate" = none) (ha : JA X [e] w) (hs : starEach [e] X.env = [(false, eval e X.env)] := by rfl) : JI X (.Tuple elts kk tpos) (.Call (.Name "enumerate" p) [e] [] pos) (iEnumD w) :=
  pi_le (pi_en hg hm ha hs) fun pins s σ H R I ⟨B, G, δ, R', rel, hw, k⟩ => ⟨B, G, δ, _, rel, hw, fun vs H1 G1 os δ1 r1 s1 rel1 ok1 => by
    obtain ⟨G2, δ2, ds, q, s2, rel2, t⟩ := lkL_ok rel1 ok1 r1
    match ds, q with
    | [a], ⟨xs, ea, q⟩ =>
      obtain ⟨v, rfl, da⟩ := t.one
      obtain ⟨S, ws, rfl, t1, k1⟩ := dn_src da ea
      refine ⟨S, ws, rfl, k1 _ _ (Same.refl _) rel2.sg, fun z1 => k _ H1 G2 _ δ2 q (s1.trans s2) rel2 (walk_en k1 t1) ?_⟩
      rw [numbered_len, ← t1.len]; exact z1⟩
end
end DL
set_option Elab.async false
set_option linter.all false
set_option maxRecDepth 100000
set_option maxHeartbeats 4000000
universe u
namespace DL
open PySem PySem.Spec PyProof.Rows L2
variable [Tb]

/-- what simp does not look into -/
inductive Stop {α : Sort u} (R : α) : Type where
  | mk
def comC (g : DTG) (t : DT) (e : DE) (vs : List Nat) (xs acc : List PyData) (δ : DS) (R : List PyData → DS → Prop) (_u : Stop R) : Prop := compIt g t e vs xs acc δ R
def forC (g : DTG) (b : DTS) (xs : List PyData) (δ : DS) (E : DEnds) (_u : Stop E) : Prop := forIt g b xs E δ
def whileC (c : DT) (b : DTS) (δ : DS) (E : DEnds) (_u : Stop E) : Prop := wWhile c b E δ
def ask (sp : DSp) (cs : List Cell) (R : PyData → List Cell → Prop) (_u : Stop R) : Prop := sp cs R
def onS {α : Type} (o : Option α) (k : α → Prop) (_u : Stop k) : Prop := match o with
  | some z => k z
  | none => False
omit [Tb] in
@[simp ↓] theorem onS_some {α : Type} (z : α) (k : α → Prop) (u : Stop k) : onS (some z) k u = k z := rfl
theorem ex_some {α : Type} (o : Option α) (k : α → Prop) : (∃ z, o = some z ∧ k z) = onS o k .mk := by
  cases o <;> simp [onS]
theorem onS_of {α : Type} {o : Option α} {z : α} {k : α → Prop} {u : Stop k} (h : o = some z) (q : k z) : onS o k u := by rw [h]; exact q
def onIs (ds : List PyData) (k : List Int → Prop) (_u : Stop k) : Prop := ∃ ns : List Int, ds = ns.map PyData.int ∧ k ns
def onBs (ds : List PyData) (k : List Bool → Prop) (_u : Stop k) : Prop := ∃ ns : List Bool, ds = ns.map PyData.bool ∧ k ns
theorem map_int_inj : ∀ {ns ms : List Int}, ns.map PyData.int = ms.map PyData.int → ns = ms
  | [], [], _ => rfl
  | [], _ :: _, h => by cases h
  | _ :: _, [], h => by cases h
  | n :: ns, m :: ms, h => by
    simp only [List.map_cons, List.cons.injEq] at h
    obtain ⟨h1, h2⟩ := h
    cases h1
    rw [map_int_inj h2]
theorem map_bool_inj : ∀ {ns ms : List Bool}, ns.map PyData.bool = ms.map PyData.bool → ns = ms
  | [], [], _ => rfl
  | [], _ :: _, h => by cases h
  | _ :: _, [], h => by cases h
  | n :: ns, m :: ms, h => by
    simp only [List.map_cons, List.cons.injEq] at h
    obtain ⟨h1, h2⟩ := h
    cases h1
    rw [map_bool_inj h2]
omit [Tb] in
@[simp ↓] theorem onIs_i (ns : List Int) (k : List Int → Prop) (u : Stop k) : onIs (ns.map PyData.int) k u = k ns :=
  propext ⟨fun ⟨ms, e, h⟩ => by rw [map_int_inj e]; exact h, fun h => ⟨ns, rfl, h⟩⟩
omit [Tb] in
@[simp ↓] theorem onIs_f {α : Type} (as : List α) (f : α → Int) (k : List Int → Prop) (u : Stop k) : onIs (as.map fun a => PyData.int (f a)) k u = k (as.map f) := by
  have := onIs_i (as.map f) k u
  rw [List.map_map] at this; exact this
omit [Tb] in
@[simp ↓] theorem onBs_i (ns : List Bool) (k : List Bool → Prop) (u : Stop k) : onBs (ns.map PyData.bool) k u = k ns :=
  propext ⟨fun ⟨ms, e, h⟩ => by rw [map_bool_inj e]; exact h, fun h => ⟨ns, rfl, h⟩⟩
omit [Tb] in
@[simp ↓] theorem onBs_f {α : Type} (as : List α) (f : α → Bool) (k : List Bool → Prop) (u : Stop k) : onBs (as.map fun a => PyData.bool (f a)) k u = k (as.map f) := by
  have := onBs_i (as.map f) k u
  rw [List.map_map] at this; exact this
def allTr (bs : List Bool) : Bool := bs.all id
def anyTr (bs : List Bool) : Bool := bs.any id
def onD (o : Option Cell) (k : PyData → Prop) (_u : Stop k) : Prop := match o with
  | some (.d z) => k z
  | _ => False
omit [Tb] in
@[simp ↓] theorem onD_d (z : PyData) (k : PyData → Prop) (u : Stop k) : onD (some (.d z)) k u = k z := rfl
theorem ex_d (o : Option Cell) (k : PyData → Prop) : (∃ z, o = some (.d z) ∧ k z) = onD o k .mk := by
  cases o with
  | none => simp [onD]
  | some c => cases c <;> simp [onD]
def asB (x : PyData) (k : Bool → Prop) (_u : Stop k) : Prop := match x with
  | .bool b => k b
  | _ => False
def asI (x : PyData) (k : Int → Prop) (_u : Stop k) : Prop := match x with
  | .int b => k b
  | _ => False
omit [Tb] in
@[simp ↓] theorem asB_b (b : Bool) (k : Bool → Prop) (u : Stop k) : asB (.bool b) k u = k b := rfl
omit [Tb] in
@[simp ↓] theorem asI_i (b : Int) (k : Int → Prop) (u : Stop k) : asI (.int b) k u = k b := rfl
theorem ex_bool (x : PyData) (k : Bool → Prop) : (∃ b, x = .bool b ∧ k b) = asB x k .mk := by
  cases x <;> simp [asB]
theorem ex_int (x : PyData) (k : Int → Prop) : (∃ b, x = .int b ∧ k b) = asI x k .mk := by
  cases x <;> simp [asI]
omit [Tb] in
@[simp ↓] theorem wOfL_ap (w : DL) (δ : DS) (R : Opd → DS → Prop) : wOfL w δ R = (w δ fun xs δ' => R (.d (.list xs)) δ') := rfl
def varC (o : Option Cell) (i : Nat) (k : Opd → Prop) (_u : Stop k) : Prop := match o with
  | some (.d x) => k (.d x)
  | some .em => False
  | none => False
  | _ => k (.s i)
omit [Tb] in
@[simp ↓] theorem varC_d (x : PyData) (i : Nat) (k : Opd → Prop) (u : Stop k) : varC (some (.d x)) i k u = k (.d x) := rfl
omit [Tb] in
@[simp ↓] theorem varC_ol (a : Addr) (xs : List PyData) (i : Nat) (k : Opd → Prop) (u : Stop k) : varC (some (.ol a xs)) i k u = k (.s i) := rfl
omit [Tb] in
@[simp ↓] theorem varC_dk (a b c : Addr) (i : Nat) (k : Opd → Prop) (u : Stop k) : varC (some (.dk a b c)) i k u = k (.s i) := rfl
omit [Tb] in
@[simp ↓] theorem varC_dx (a b c : Addr) (xs : List Int) (n : Int) (ys : List Int) (i : Nat) (k : Opd → Prop) (u : Stop k) : varC (some (.dx a b c xs n ys)) i k u = k (.s i) := rfl
omit [Tb] in
@[simp ↓] theorem varC_scr (a : Addr) (ns : List Int) (i : Nat) (k : Opd → Prop) (u : Stop k) : varC (some (.scr a ns)) i k u = k (.s i) := rfl
def useC (o : Option Cell) (k : PyData → Prop) (_u : Stop k) : Prop := match o with
  | some (.d x) => k x
  | some (.ol _ xs) => k (.list xs)
  | _ => False
omit [Tb] in
@[simp ↓] theorem useC_d (x : PyData) (k : PyData → Prop) (u : Stop k) : useC (some (.d x)) k u = k x := rfl
omit [Tb] in
@[simp ↓] theorem useC_ol (a : Addr) (xs : List PyData) (k : PyData → Prop) (u : Stop k) : useC (some (.ol a xs)) k u = k (.list xs) := rfl
def lkC (o : Option Cell) (k l : PyData → Prop) (_u : Stop k) (_v : Stop l) : Prop := match o with
  | some (.d x) => k x
  | some (.ol _ xs) => l (.list xs)
  | _ => False
omit [Tb] in
@[simp ↓] theorem lkC_d (x : PyData) (k l : PyData → Prop) (u : Stop k) (v : Stop l) : lkC (some (.d x)) k l u v = k x := rfl
omit [Tb] in
@[simp ↓] theorem lkC_ol (a : Addr) (xs : List PyData) (k l : PyData → Prop) (u : Stop k) (v : Stop l) : lkC (some (.ol a xs)) k l u v = l (.list xs) := rfl
def olC (o : Option Cell) (k : Addr → List PyData → Prop) (_u : Stop k) : Prop := match o with
  | some (.ol a xs) => k a xs
  | _ => False
omit [Tb] in
@[simp ↓] theorem olC_ol (a : Addr) (xs : List PyData) (k : Addr → List PyData → Prop) (u : Stop k) : olC (some (.ol a xs)) k u = k a xs := rfl
def asS (x : PyData) (k : List PyData → Prop) (_u : Stop k) : Prop := match x with
  | .tuple xs => k xs
  | .list xs => k xs
  | _ => False
omit [Tb] in
@[simp ↓] theorem asS_t (xs : List PyData) (k : List PyData → Prop) (u : Stop k) : asS (.tuple xs) k u = k xs := rfl
omit [Tb] in
@[simp ↓] theorem asS_l (xs : List PyData) (k : List PyData → Prop) (u : Stop k) : asS (.list xs) k u = k xs := rfl
omit [Tb] in
@[simp ↓] theorem wVar_ap (i : Nat) (δ : DS) (R : Opd → DS → Prop) : wVar i δ R = varC δ[i]? i (fun o => R o δ) .mk := rfl
omit [Tb] in
@[simp ↓] theorem wC_ap (x : PyData) (δ : DS) (R : Opd → DS → Prop) : wC x δ R = (R (.d x) δ) := rfl
omit [Tb] in
@[simp ↓] theorem wNil_ap (δ : DS) (R : List Opd → DS → Prop) : wNil  δ R = (R [] δ) := rfl
omit [Tb] in
@[simp ↓] theorem wCons_ap (w : DE) (r : DA) (δ : DS) (R : List Opd → DS → Prop) : wCons w r δ R = (w δ fun o δ1 => r δ1 fun os δ2 => R (o :: os) δ2) := rfl
omit [Tb] in
@[simp ↓] theorem wOp_ap (p : P2) (wa wb : DE) (δ : DS) (R : Opd → DS → Prop) : wOp p wa wb δ R = (wa δ fun o1 δ1 => wb δ1 fun o2 δ2 => use o1 δ2 fun x => use o2 δ2 fun y => p x y fun z => R (.d z) δ2) := rfl
omit [Tb] in
@[simp ↓] theorem wB_ap (w : DE) (δ : DS) (R : Bool → DS → Prop) : wB w δ R = (w δ fun o δ1 => use o δ1 fun x => asB x (fun b => R b δ1) .mk) := by
  unfold wB; simp only [← ex_bool, ← ex_int]
omit [Tb] in
@[simp ↓] theorem wChain_ap (p q : P2) (wa wb wc : DE) (δ : DS) (R : Opd → DS → Prop) : wChain p q wa wb wc δ R = (wa δ fun o1 δ1 => wb δ1 fun o2 δ2 => use o1 δ2 fun x => use o2 δ2 fun y => p x y fun z => asB z (fun k =>
  if k = true then wc δ2 fun o3 δ3 => use o2 δ3 fun y => use o3 δ3 fun w => q y w fun z => R (.d z) δ3 else R (.d (.bool false)) δ2) .mk) := by
  unfold wChain; simp only [← ex_bool, ← ex_int]
omit [Tb] in
@[simp ↓] theorem wAnd_ap (t u : DT) (δ : DS) (R : Bool → DS → Prop) : wAnd t u δ R = (t δ fun k δ1 => if k = true then u δ1 R else R false δ1) := rfl
omit [Tb] in
@[simp ↓] theorem wOr_ap (t u : DT) (δ : DS) (R : Bool → DS → Prop) : wOr t u δ R = (t δ fun k δ1 => if k = true then R true δ1 else u δ1 R) := rfl
omit [Tb] in
@[simp ↓] theorem wNot_ap (t : DT) (δ : DS) (R : Bool → DS → Prop) : wNot t δ R = (t δ fun k δ1 => R (!k) δ1) := rfl
omit [Tb] in
@[simp ↓] theorem wAndV_ap (w u : DE) (δ : DS) (R : Opd → DS → Prop) : wAndV w u δ R = (w δ fun o δ1 => use o δ1 fun x => asB x (fun k => if k = true then u δ1 R else R (.d (.bool false)) δ1) .mk) := by
  unfold wAndV; simp only [← ex_bool, ← ex_int]
omit [Tb] in
@[simp ↓] theorem wOrV_ap (w u : DE) (δ : DS) (R : Opd → DS → Prop) : wOrV w u δ R = (w δ fun o δ1 => use o δ1 fun x => asB x (fun k => if k = true then R (.d (.bool true)) δ1 else u δ1 R) .mk) := by
  unfold wOrV; simp only [← ex_bool, ← ex_int]
omit [Tb] in
@[simp ↓] theorem wNotV_ap (w : DE) (δ : DS) (R : Opd → DS → Prop) : wNotV w δ R = (w δ fun o δ1 => use o δ1 fun x => asB x (fun k => R (.d (.bool (!k))) δ1) .mk) := by
  unfold wNotV; simp only [← ex_bool, ← ex_int]
omit [Tb] in
@[simp ↓] theorem wIfE_ap (t : DT) (wa wb : DE) (δ : DS) (R : Opd → DS → Prop) : wIfE t wa wb δ R = (t δ fun k δ1 => if k = true then wa δ1 R else wb δ1 R) := rfl
omit [Tb] in
@[simp ↓] theorem wUn_ap (p : PyData → (PyData → Prop) → Prop) (w : DE) (δ : DS) (R : Opd → DS → Prop) : wUn p w δ R = (w δ fun o δ1 => use o δ1 fun x => p x fun z => R (.d z) δ1) := rfl
omit [Tb] in
@[simp ↓] theorem wTup_ap (w : DA) (δ : DS) (R : Opd → DS → Prop) : wTup w δ R = (w δ fun os δ1 => lkL os δ1 fun xs δ2 => xs.length ≤ 1000 ∧ R (.d (.tuple xs)) δ2) := rfl
omit [Tb] in
@[simp ↓] theorem wLst_ap (w : DA) (δ : DS) (R : List PyData → DS → Prop) : wLst w δ R = (w δ fun os δ1 => lkL os δ1 fun xs δ2 => xs.length ≤ 1000 ∧ R xs δ2) := rfl
omit [Tb] in
@[simp ↓] theorem wDic_ap (δ : DS) (R : Opd → DS → Prop) : wDic  δ R = (R (.d (.dict [])) δ) := rfl
omit [Tb] in
@[simp ↓] theorem wFn_ap (p : PN) (w : DA) (δ : DS) (R : Opd → DS → Prop) : wFn p w δ R = (w δ fun os δ1 => useL os δ1 fun xs => p xs fun z => R (.d z) δ1) := rfl
omit [Tb] in
@[simp ↓] theorem wFnL_ap (p : List PyData → (List PyData → Prop) → Prop) (w : DA) (δ : DS) (R : List PyData → DS → Prop) : wFnL p w δ R = (w δ fun os δ1 => useL os δ1 fun xs => p xs fun z => R z δ1) := rfl
omit [Tb] in
@[simp ↓] theorem wOpL_ap (p : P2L) (wa wb : DE) (δ : DS) (R : List PyData → DS → Prop) : wOpL p wa wb δ R = (wa δ fun o1 δ1 => wb δ1 fun o2 δ2 => use o1 δ2 fun x => use o2 δ2 fun y => p x y fun z => R z δ2) := rfl
omit [Tb] in
@[simp ↓] theorem wNoP_ap (δ : DS) (R : Option Int → DS → Prop) : wNoP  δ R = (R none δ) := rfl
omit [Tb] in
@[simp ↓] theorem wPart_ap (w : DE) (δ : DS) (R : Option Int → DS → Prop) : wPart w δ R = (w δ fun o δ1 => use o δ1 fun x => asI x (fun i => R (some i) δ1) .mk) := by
  unfold wPart; simp only [← ex_bool, ← ex_int]
omit [Tb] in
@[simp ↓] theorem wSl_ap (p : P3) (w : DE) (l h : DO) (δ : DS) (R : Opd → DS → Prop) : wSl p w l h δ R = (w δ fun o δ1 => l δ1 fun i δ2 => h δ2 fun j δ3 => use o δ3 fun x => p x i j fun z => R (.d z) δ3) := rfl
omit [Tb] in
@[simp ↓] theorem pSub_ap (i j : Int) (R : PyData → Prop) : pSub (.int i) (.int j) R = (R (.int (i - j))) := rfl
omit [Tb] in
@[simp ↓] theorem pMul_intiintj (i : Int) (j : Int) (R : PyData → Prop) : pMul (.int i) (.int j) R = ((CMul i j ∨ CMulW i j) ∧ R (.int (i * j))) := rfl
omit [Tb] in
@[simp ↓] theorem pMul_listxsintk (xs : List PyData) (k : Int) (R : PyData → Prop) : pMul (.list xs) (.int k) R = (0 ≤ k ∧ xs.length * k.toNat ≤ 1000000 ∧ k < 1000000 ∧ R (.list (List.replicate k.toNat xs).flatten)) := rfl
omit [Tb] in
@[simp ↓] theorem pDiv_ap (i j : Int) (R : PyData → Prop) : pDiv (.int i) (.int j) R = ((0 < j ∧ j.natAbs.log2 < 9000) ∧ R (.int (i / j))) := rfl
omit [Tb] in
@[simp ↓] theorem pMod_ap (i j : Int) (R : PyData → Prop) : pMod (.int i) (.int j) R = (0 < j ∧ R (.int (i % j))) := rfl
omit [Tb] in
@[simp ↓] theorem pPow_ap (i j : Int) (R : PyData → Prop) : pPow (.int i) (.int j) R = (CPow i j ∧ R (.int (i ^ j.toNat))) := rfl
omit [Tb] in
@[simp ↓] theorem pShl_ap (i j : Int) (R : PyData → Prop) : pShl (.int i) (.int j) R = (CPow i j ∧ R (.int (i * 2 ^ j.toNat))) := rfl
omit [Tb] in
@[simp ↓] theorem pAnd_ap (i j : Int) (R : PyData → Prop) : pAnd (.int i) (.int j) R = (R (.int (Builtin.bitAnd i j))) := rfl
omit [Tb] in
@[simp ↓] theorem pOr_ap (i j : Int) (R : PyData → Prop) : pOr (.int i) (.int j) R = (R (.int (Builtin.bitOr i j))) := rfl
omit [Tb] in
@[simp ↓] theorem pLt_intiintj (i : Int) (j : Int) (R : PyData → Prop) : pLt (.int i) (.int j) R = (R (.bool (decide (i < j)))) := rfl
omit [Tb] in
@[simp ↓] theorem pLe_ap (i j : Int) (R : PyData → Prop) : pLe (.int i) (.int j) R = (R (.bool (decide (i ≤ j)))) := rfl
omit [Tb] in
@[simp ↓] theorem pGt_ap (i j : Int) (R : PyData → Prop) : pGt (.int i) (.int j) R = (R (.bool (decide (j < i)))) := rfl
omit [Tb] in
@[simp ↓] theorem pGe_ap (i j : Int) (R : PyData → Prop) : pGe (.int i) (.int j) R = (R (.bool (decide (j ≤ i)))) := rfl
omit [Tb] in
@[simp ↓] theorem pAdd_intiintj (i : Int) (j : Int) (R : PyData → Prop) : pAdd (.int i) (.int j) R = (R (.int (i + j))) := rfl
omit [Tb] in
@[simp ↓] theorem pAdd_strastrb (a : Str) (b : Str) (R : PyData → Prop) : pAdd (.str a) (.str b) R = (a.length + b.length ≤ 1000000 ∧ R (.str (a ++ b))) := rfl
omit [Tb] in
@[simp ↓] theorem pAdd_tuplexstupleys (xs : List PyData) (ys : List PyData) (R : PyData → Prop) : pAdd (.tuple xs) (.tuple ys) R = (xs.length + ys.length ≤ 1000000 ∧ R (.tuple (xs ++ ys))) := rfl
omit [Tb] in
@[simp ↓] theorem pAdd_listxslistys (xs : List PyData) (ys : List PyData) (R : PyData → Prop) : pAdd (.list xs) (.list ys) R = (xs.length + ys.length ≤ 1000000 ∧ R (.list (xs ++ ys))) := rfl
omit [Tb] in
@[simp ↓] theorem pIs_boolaboolb (a : Bool) (b : Bool) (R : PyData → Prop) : pIs (.bool a) (.bool b) R = (R (.bool (decide (a = b)))) := rfl
omit [Tb] in
@[simp ↓] theorem pIsNot_boolaboolb (a : Bool) (b : Bool) (R : PyData → Prop) : pIsNot (.bool a) (.bool b) R = (R (.bool (!decide (a = b)))) := rfl
omit [Tb] in
@[simp ↓] theorem pIx_l (ds : List PyData) (i : Int) (R : PyData → Prop) : pIx (.list ds) (.int i) R = onS (atI ds i) R .mk := by rw [← ex_some]; rfl
omit [Tb] in
@[simp ↓] theorem pIx_t (ds : List PyData) (i : Int) (R : PyData → Prop) : pIx (.tuple ds) (.int i) R = onS (atI ds i) R .mk := by rw [← ex_some]; rfl
omit [Tb] in
@[simp ↓] theorem pIx_s (z : Str) (i : Int) (R : PyData → Prop) : pIx (.str z) (.int i) R = (z.length ≤ 1000000 ∧ onS (atI z.cps.toList i) (fun c => R (.str ⟨#[c]⟩)) .mk) := by rw [← ex_some]; rfl
omit [Tb] in
@[simp ↓] theorem mE_ap (w : DE) (δ : DS) (R : Cell → DS → Prop) : mE w δ R = (w δ fun o δ1 => lk o δ1 fun x δ2 => R (.d x) δ2) := rfl
omit [Tb] in
@[simp ↓] theorem mL_ap (w : DL) (δ : DS) (R : Cell → DS → Prop) : mL w δ R = (w δ fun xs δ1 => ∀ a, R (.ol a xs) δ1) := rfl
omit [Tb] in
@[simp ↓] theorem msNil_ap (δ : DS) (R : List Cell → DS → Prop) : msNil  δ R = (R [] δ) := rfl
omit [Tb] in
@[simp ↓] theorem msCons_ap (w : DM) (r : DMs) (δ : DS) (R : List Cell → DS → Prop) : msCons w r δ R = (w δ fun c δ1 => r δ1 fun cs δ2 => R (c :: cs) δ2) := rfl
omit [Tb] in
@[simp ↓] theorem wNext_ap (E : DEnds) (δ : DS) : wNext  E δ = (E.nx δ) := rfl
omit [Tb] in
@[simp ↓] theorem wSeq_ap (t u : DTS) (E : DEnds) (δ : DS) : wSeq t u E δ = (t { E with nx := u E } δ) := rfl
omit [Tb] in
@[simp ↓] theorem wBrk_ap (E : DEnds) (δ : DS) : wBrk  E δ = (E.bk δ) := rfl
omit [Tb] in
@[simp ↓] theorem wCnt_ap (E : DEnds) (δ : DS) : wCnt  E δ = (E.ct δ) := rfl
omit [Tb] in
@[simp ↓] theorem wRet_ap (w : DE) (E : DEnds) (δ : DS) : wRet w E δ = (w δ fun o δ1 => lk o δ1 fun x δ2 => E.rt x δ2) := rfl
omit [Tb] in
@[simp ↓] theorem wRetN_ap (E : DEnds) (δ : DS) : wRetN  E δ = (E.rt .none δ) := rfl
omit [Tb] in
@[simp ↓] theorem wIf_ap (c : DT) (t u : DTS) (E : DEnds) (δ : DS) : wIf c t u E δ = (c δ fun b δ1 => if b = true then t E δ1 else u E δ1) := rfl
omit [Tb] in
@[simp ↓] theorem wNever_ap (x0 : DEnds) (x1 : DS) : wNever  x0 x1 = (False) := rfl
omit [Tb] in
@[simp ↓] theorem wDrop_ap (w : DE) (E : DEnds) (δ : DS) : wDrop w E δ = (w δ fun _ δ1 => E.nx δ1) := rfl
omit [Tb] in
@[simp ↓] theorem wSet_ap (i : Nat) (w : DM) (E : DEnds) (δ : DS) : wSet i w E δ = (w δ fun c δ1 => E.nx (δ1.set i c)) := rfl
omit [Tb] in
@[simp ↓] theorem wPar2_ap (i j : Nat) (w : DMs) (E : DEnds) (δ : DS) : wPar2 i j w E δ = (w δ fun cs δ1 => match cs with
  | [c, d] => E.nx ((δ1.set i c).set j d)
  | _ => False) := by
  unfold wPar2
  congr 1; funext cs δ1
  match cs with
  | [] => simp
  | [c] => simp
  | [c, d] => exact propext ⟨fun ⟨c', d', e, h⟩ => by cases e; exact h, fun h => ⟨c, d, rfl, h⟩⟩
  | c :: d :: e :: r => simp
omit [Tb] in
@[simp ↓] theorem wAug_ap (i : Nat) (p : P2) (w : DE) (E : DEnds) (δ : DS) : wAug i p w E δ = onD δ[i]? (fun x => w δ fun o δ1 => use o δ1 fun y => p x y fun z => E.nx (δ1.set i (.d z))) .mk := by
  rw [← ex_d]; rfl
omit [Tb] in
@[simp ↓] theorem gN_ap (i : Nat) (x : PyData) (δ : DS) (R : DS → Prop) : gN i x δ R = (R (δ.set i (.d x))) := rfl
omit [Tb] in
@[simp ↓] theorem gsNil_ap (xs : List PyData) (δ : DS) (R : DS → Prop) : gsNil  xs δ R = (match xs with
  | [] => R δ
  | _ => False) := rfl
omit [Tb] in
@[simp ↓] theorem gsCons_ap (g : DTG) (r : DTGs) (xs : List PyData) (δ : DS) (R : DS → Prop) : gsCons g r xs δ R = (match xs with
  | x :: xs => g x δ fun δ1 => r xs δ1 R
  | [] => False) := rfl
omit [Tb] in
@[simp ↓] theorem gT_ap (r : DTGs) (x : PyData) (δ : DS) (R : DS → Prop) : gT r x δ R = (match x with
  | .tuple xs => r xs δ R
  | _ => False) := rfl
omit [Tb] in
@[simp ↓] theorem iSeq_ap (w : DE) (δ : DS) (R : List PyData → DS → Prop) : iSeq w δ R = (w δ fun o δ1 => lk o δ1 fun x δ2 => asS x (fun xs => R xs δ2) .mk) := rfl
def rng1 (xs : List PyData) (k : Int → Prop) (_u : Stop k) : Prop := ∃ j, xs = [PyData.int j] ∧ k j
def rng2 (xs : List PyData) (k : Int → Int → Prop) (_u : Stop k) : Prop := ∃ i j, xs = [PyData.int i, PyData.int j] ∧ k i j
omit [Tb] in
@[simp ↓] theorem rng1_i (j : Int) (k : Int → Prop) (u : Stop k) : rng1 [.int j] k u = k j := propext ⟨fun ⟨_, e, h⟩ => by cases e; exact h, fun h => ⟨j, rfl, h⟩⟩
omit [Tb] in
@[simp ↓] theorem rng2_i (i j : Int) (k : Int → Int → Prop) (u : Stop k) : rng2 [.int i, .int j] k u = k i j := propext ⟨fun ⟨_, _, e, h⟩ => by cases e; exact h, fun h => ⟨i, j, rfl, h⟩⟩
omit [Tb] in
@[simp ↓] theorem iRange1_ap (w : DA) (δ : DS) (R : List PyData → DS → Prop) : iRange1 w δ R = (w δ fun os δ1 => useL os δ1 fun xs => rng1 xs (fun j => -1000000 ≤ j ∧ j ≤ 1000000 ∧ R (nums 0 j.toNat) δ1) .mk) := rfl
omit [Tb] in
@[simp ↓] theorem iRange2_ap (w : DA) (δ : DS) (R : List PyData → DS → Prop) : iRange2 w δ R = (w δ fun os δ1 => useL os δ1 fun xs => rng2 xs (fun i j => (-1000000 ≤ i ∧ i ≤ 1000000 ∧ -1000000 ≤ j ∧ j ≤ 1000000) ∧ R (nums i (j - i).toNat) δ1) .mk) := rfl
omit [Tb] in
@[simp ↓] theorem wFor_ap (wi : DL) (g : DTG) (b : DTS) (E : DEnds) (δ : DS) : wFor wi g b E δ = (wi δ fun xs δ1 => forC g b xs δ1 E .mk) := rfl
omit [Tb] in
@[simp ↓] theorem wWhile_ap (c : DT) (b : DTS) (E : DEnds) (δ : DS) : wWhile c b E δ = whileC c b δ E .mk := rfl
omit [Tb] in
@[simp ↓] theorem wComp_ap (wi : DL) (g : DTG) (t : DT) (e : DE) (vs : List Nat) (δ : DS) (R : List PyData → DS → Prop) : wComp wi g t e vs δ R = (wi δ fun xs δ1 => comC g t e vs xs [] (wipeD δ1 vs) (fun ys δ2 => R ys (backD δ1 δ2 vs)) .mk) := rfl
omit [Tb] in
@[simp ↓] theorem wAppend_ap (i : Nat) (w : DE) (E : DEnds) (δ : DS) : wAppend i w E δ = (isOl δ i ∧ w δ fun o δ1 => lk o δ1 fun y δ2 => olC δ2[i]? (fun a xs => xs.length ≤ 1000000 ∧ E.nx (δ2.set i (.ol a (xs ++ [y])))) .mk) := rfl
omit [Tb] in
@[simp ↓] theorem wExtend_ap (i : Nat) (w : DE) (E : DEnds) (δ : DS) : wExtend i w E δ = (isOl δ i ∧ w δ fun o δ1 => use o δ1 fun y => ∃ ys, y = .list ys ∧ olC δ1[i]? (fun a xs => xs.length + ys.length ≤ 1000000 ∧ E.nx (δ1.set i (.ol a (xs ++ ys)))) .mk) := rfl
omit [Tb] in
@[simp ↓] theorem wPut_ap (i : Nat) (we wi : DE) (E : DEnds) (δ : DS) : wPut i we wi E δ = (we δ fun o δ1 => lk o δ1 fun y δ2 => isOl δ2 i ∧ wi δ2 fun oj δ3 => use oj δ3 fun j => asI j (fun j => olC δ3[i]? (fun a xs => ∃ n, ixN xs.length j = some n ∧ E.nx (δ3.set i (.ol a (xs.set n y)))) .mk) .mk) := by
  unfold wPut
  congr 1; funext o δ1; congr 1; funext y δ2; congr 1; congr 1; funext oj δ3; congr 1; funext j
  cases j <;> simp only [asI]
  cases δ3[i]? with
  | none => rfl
  | some c => cases c <;> rfl
omit [Tb] in
@[simp ↓] theorem wPop_ap (i : Nat) (δ : DS) (R : Opd → DS → Prop) : wPop i δ R = olC δ[i]? (fun a xs => onS xs.getLast? (fun y => R (.d y) (δ.set i (.ol a xs.dropLast))) .mk) .mk := by
  unfold wPop
  cases δ[i]? with
  | none => rfl
  | some c => cases c <;> first | rfl | exact ex_some _ _
omit [Tb] in
@[simp ↓] theorem wCall_ap (m : List Bool) (sp : DSp) (w : DA) (δ : DS) (R : Opd → DS → Prop) : wCall m sp w δ R = (w δ fun os δ1 => lkM m os δ1 fun os' δ2 => (slotsOf os').Nodup ∧ ask sp (os'.map (cellOf δ2)) (fun x cs => R (.d x) (putBack os' cs δ2)) .mk) := rfl
omit [Tb] in
@[simp ↓] theorem iZip2_ap (w : DA) (δ : DS) (R : List PyData → DS → Prop) : iZip2 w δ R = (w δ fun os δ1 => lkL os δ1 fun ds δ2 => match ds with
  | [a, b] => onS (seqOf a) (fun xs => onS (seqOf b) (fun ys => R (pairsD xs ys) δ2) .mk) .mk
  | _ => False) := by
  unfold iZip2; simp only [← ex_some, ← exists_and_left] <;> rfl
omit [Tb] in
@[simp ↓] theorem iZip3_ap (w : DA) (δ : DS) (R : List PyData → DS → Prop) : iZip3 w δ R = (w δ fun os δ1 => lkL os δ1 fun ds δ2 => match ds with
  | [a, b, c] => onS (seqOf a) (fun xs => onS (seqOf b) (fun ys => onS (seqOf c) (fun zs => R (triosD xs ys zs) δ2) .mk) .mk) .mk
  | _ => False) := by
  unfold iZip3; simp only [← ex_some, ← exists_and_left] <;> rfl
omit [Tb] in
@[simp ↓] theorem iEnumD_ap (w : DA) (δ : DS) (R : List PyData → DS → Prop) : iEnumD w δ R = (w δ fun os δ1 => lkL os δ1 fun ds δ2 => match ds with
  | [a] => onS (seqOf a) (fun xs => R (numbered 0 xs) δ2) .mk
  | _ => False) := by
  unfold iEnumD; simp only [← ex_some] <;> rfl
omit [Tb] in
@[simp ↓] theorem use_d (x : PyData) (δ : DS) (k : PyData → Prop) : use (.d x) δ k = k x := rfl
omit [Tb] in
@[simp ↓] theorem use_s (i : Nat) (δ : DS) (k : PyData → Prop) : use (.s i) δ k = useC δ[i]? k .mk := rfl
omit [Tb] in
@[simp ↓] theorem lk_d (x : PyData) (δ : DS) (k : PyData → DS → Prop) : lk (.d x) δ k = k x δ := rfl
omit [Tb] in
@[simp ↓] theorem lk_s (i : Nat) (δ : DS) (k : PyData → DS → Prop) : lk (.s i) δ k = lkC δ[i]? (fun x => k x δ) (fun x => k x (δ.set i (.d x))) .mk .mk := by
  show (match δ[i]? with
    | some (.d x) => k x δ
    | some (.ol _ xs) => k (.list xs) (δ.set i (.d (.list xs)))
    | _ => False) = _
  unfold lkC
  cases δ[i]? with
  | none => rfl
  | some c => cases c <;> rfl
omit [Tb] in
@[simp ↓] theorem useL_nil (δ : DS) (k : List PyData → Prop) : useL [] δ k = k [] := rfl
omit [Tb] in
@[simp ↓] theorem useL_cons (o : Opd) (os : List Opd) (δ : DS) (k : List PyData → Prop) : useL (o :: os) δ k = (use o δ fun x => useL os δ fun xs => k (x :: xs)) := rfl
omit [Tb] in
@[simp ↓] theorem lkL_nil (δ : DS) (k : List PyData → DS → Prop) : lkL [] δ k = k [] δ := rfl
omit [Tb] in
@[simp ↓] theorem lkL_cons (o : Opd) (os : List Opd) (δ : DS) (k : List PyData → DS → Prop) : lkL (o :: os) δ k = (lk o δ fun x δ1 => lkL os δ1 fun xs δ2 => k (x :: xs) δ2) := rfl
omit [Tb] in
@[simp ↓] theorem lkM_nil (m : List Bool) (δ : DS) (k : List Opd → DS → Prop) : lkM m [] δ k = k [] δ := by unfold lkM; rfl
omit [Tb] in
@[simp ↓] theorem lkM_t (m : List Bool) (o : Opd) (os : List Opd) (δ : DS) (k : List Opd → DS → Prop) : lkM (true :: m) (o :: os) δ k = (lkM m os δ fun r δ' => k (o :: r) δ') := by
  conv => lhs; unfold lkM
  rfl
omit [Tb] in
@[simp ↓] theorem lkM_f (m : List Bool) (o : Opd) (os : List Opd) (δ : DS) (k : List Opd → DS → Prop) : lkM (false :: m) (o :: os) δ k = (lk o δ fun x δ1 => lkM m os δ1 fun r δ' => k (.d x :: r) δ') := by
  conv => lhs; unfold lkM
  rfl
omit [Tb] in
@[simp ↓] theorem lkM_0 (o : Opd) (os : List Opd) (δ : DS) (k : List Opd → DS → Prop) : lkM [] (o :: os) δ k = (lk o δ fun x δ1 => lkM [] os δ1 fun r δ' => k (.d x :: r) δ') := by
  conv => lhs; unfold lkM
  rfl
omit [Tb] in
@[simp] theorem cellOf_d (δ : DS) (x : PyData) : cellOf δ (.d x) = .d x := rfl
omit [Tb] in
@[simp] theorem cellOf_s (δ : DS) (i : Nat) : cellOf δ (.s i) = (δ[i]?).getD .em := rfl
omit [Tb] in
@[simp ↓] theorem putBack_nil (cs : List Cell) (δ : DS) : putBack [] cs δ = δ := by cases cs <;> rfl
omit [Tb] in
@[simp ↓] theorem putBack_s (i : Nat) (os : List Opd) (c : Cell) (cs : List Cell) (δ : DS) : putBack (.s i :: os) (c :: cs) δ = putBack os cs (δ.set i c) := rfl
omit [Tb] in
@[simp ↓] theorem putBack_d (x : PyData) (os : List Opd) (c : Cell) (cs : List Cell) (δ : DS) : putBack (.d x :: os) (c :: cs) δ = putBack os cs δ := rfl
omit [Tb] in
@[simp] theorem slotsOf_nil : slotsOf [] = [] := rfl
omit [Tb] in
@[simp] theorem slotsOf_s (i : Nat) (os : List Opd) : slotsOf (.s i :: os) = i :: slotsOf os := rfl
omit [Tb] in
@[simp] theorem slotsOf_d (x : PyData) (os : List Opd) : slotsOf (.d x :: os) = slotsOf os := rfl
omit [Tb] in
@[simp ↓] theorem pNeg_i (i : Int) (R : PyData → Prop) : pNeg (.int i) R = R (.int (-i)) := rfl
omit [Tb] in
@[simp ↓] theorem pIs_n (x : PyData) (R : PyData → Prop) : pIs x .none R = R (.bool (isNone x)) := by cases x <;> rfl
omit [Tb] in
@[simp ↓] theorem pIsNot_n (x : PyData) (R : PyData → Prop) : pIsNot x .none R = R (.bool (!isNone x)) := by cases x <;> rfl
omit [Tb] in
@[simp ↓] theorem isNone_n : isNone .none = true := rfl
omit [Tb] in
@[simp ↓] theorem isNone_i (i : Int) : isNone (.int i) = false := rfl
omit [Tb] in
@[simp ↓] theorem isNone_b (i : Bool) : isNone (.bool i) = false := rfl
omit [Tb] in
@[simp ↓] theorem isNone_s (i : Str) : isNone (.str i) = false := rfl
omit [Tb] in
@[simp ↓] theorem isNone_l (i : List PyData) : isNone (.list i) = false := rfl
omit [Tb] in
@[simp ↓] theorem isNone_t (i : List PyData) : isNone (.tuple i) = false := rfl
omit [Tb] in
@[simp ↓] theorem isNone_d (i : List (PyData × PyData)) : isNone (.dict i) = false := rfl
omit [Tb] in
@[simp ↓] theorem pAddL_ll (xs ys : List PyData) (R : List PyData → Prop) : pAddL (.list xs) (.list ys) R = (xs.length + ys.length ≤ 1000000 ∧ R (xs ++ ys)) := rfl
omit [Tb] in
@[simp ↓] theorem pMulL_ll (xs : List PyData) (k : Int) (R : List PyData → Prop) : pMulL (.list xs) (.int k) R = (0 ≤ k ∧ xs.length * k.toNat ≤ 1000000 ∧ k < 1000000 ∧ R (List.replicate k.toNat xs).flatten) := rfl
omit [Tb] in
@[simp ↓] theorem pIn_l (x : PyData) (ds : List PyData) (R : PyData → Prop) : pIn x (.list ds) R = (SeqAt.shaped x = true ∧ SeqAt.shaped (.list ds) = true ∧ R (.bool (ds.any fun z => PyData.eqv z x))) := rfl
omit [Tb] in
@[simp ↓] theorem pIn_t (x : PyData) (ds : List PyData) (R : PyData → Prop) : pIn x (.tuple ds) R = (SeqAt.shaped x = true ∧ SeqAt.shaped (.tuple ds) = true ∧ R (.bool (ds.any fun z => PyData.eqv z x))) := rfl
omit [Tb] in
@[simp ↓] theorem pIn_s (x : PyData) (z : Str) (R : PyData → Prop) : pIn x (.str z) R = (∃ c : Nat, x = .str ⟨#[c]⟩ ∧ R (.bool (decide (c ∈ z.cps.toList)))) := rfl
omit [Tb] in
@[simp ↓] theorem pNotIn_l (x : PyData) (ds : List PyData) (R : PyData → Prop) : pNotIn x (.list ds) R = (SeqAt.shaped x = true ∧ SeqAt.shaped (.list ds) = true ∧ R (.bool (!ds.any fun z => PyData.eqv z x))) := rfl
omit [Tb] in
@[simp ↓] theorem pNotIn_t (x : PyData) (ds : List PyData) (R : PyData → Prop) : pNotIn x (.tuple ds) R = (SeqAt.shaped x = true ∧ SeqAt.shaped (.tuple ds) = true ∧ R (.bool (!ds.any fun z => PyData.eqv z x))) := rfl
omit [Tb] in
@[simp ↓] theorem pNotIn_s (x : PyData) (z : Str) (R : PyData → Prop) : pNotIn x (.str z) R = (∃ c : Nat, x = .str ⟨#[c]⟩ ∧ R (.bool (!decide (c ∈ z.cps.toList)))) := rfl
omit [Tb] in
@[simp ↓] theorem pSl_l (ds : List PyData) (lo hi : Option Int) (R : PyData → Prop) : pSl (.list ds) lo hi R = R (.list (cutD ds lo hi)) := rfl
omit [Tb] in
@[simp ↓] theorem pSl_t (ds : List PyData) (lo hi : Option Int) (R : PyData → Prop) : pSl (.tuple ds) lo hi R = R (.tuple (cutD ds lo hi)) := rfl
omit [Tb] in
@[simp ↓] theorem pSl_s (z : Str) (lo hi : Option Int) (R : PyData → Prop) : pSl (.str z) lo hi R = (z.length ≤ 1000000 ∧ R (.str (cutS z lo hi))) := rfl
omit [Tb] in
@[simp ↓] theorem pLen_l (ds : List PyData) (R : PyData → Prop) : pLen [.list ds] R = R (.int ds.length) := rfl
omit [Tb] in
@[simp ↓] theorem pLen_t (ds : List PyData) (R : PyData → Prop) : pLen [.tuple ds] R = R (.int ds.length) := rfl
omit [Tb] in
@[simp ↓] theorem pLen_s (z : Str) (R : PyData → Prop) : pLen [.str z] R = (z.length ≤ 1000000 ∧ R (.int z.length)) := rfl
omit [Tb] in
@[simp ↓] theorem pTupOf_l (ds : List PyData) (R : PyData → Prop) : pTupOf [.list ds] R = R (.tuple ds) := rfl
omit [Tb] in
@[simp ↓] theorem pTupOf_t (ds : List PyData) (R : PyData → Prop) : pTupOf [.tuple ds] R = R (.tuple ds) := rfl
omit [Tb] in
@[simp ↓] theorem pLstOf_l (ds : List PyData) (R : List PyData → Prop) : pLstOf [.list ds] R = R ds := rfl
omit [Tb] in
@[simp ↓] theorem pLstOf_t (ds : List PyData) (R : List PyData → Prop) : pLstOf [.tuple ds] R = R ds := rfl
omit [Tb] in
@[simp ↓] theorem pInt_i (i : Int) (R : PyData → Prop) : pInt [.int i] R = R (.int i) := rfl
omit [Tb] in
@[simp ↓] theorem pInt_b (b : Bool) (R : PyData → Prop) : pInt [.bool b] R = R (.int (if b then 1 else 0)) := rfl
omit [Tb] in
@[simp ↓] theorem pInt_s (z : Str) (R : PyData → Prop) : pInt [.str z] R = (∃ n, PySem.intText? z = some n ∧ z.length ≤ 640 ∧ R (.int n)) := rfl
omit [Tb] in
@[simp ↓] theorem pBool_i (i : Int) (R : PyData → Prop) : pBool [.int i] R = R (.bool (i != 0)) := rfl
omit [Tb] in
@[simp ↓] theorem pBool_b (b : Bool) (R : PyData → Prop) : pBool [.bool b] R = R (.bool b) := rfl
omit [Tb] in
@[simp ↓] theorem pStr_i (i : Int) (R : PyData → Prop) : pStr [.int i] R = (i.natAbs.log2 < 1920 ∧ R (.str (toString i))) := rfl
omit [Tb] in
@[simp ↓] theorem pStr_s (z : Str) (R : PyData → Prop) : pStr [.str z] R = R (.str z) := rfl
omit [Tb] in
@[simp ↓] theorem pAbs_i (i : Int) (R : PyData → Prop) : pAbs [.int i] R = R (.int (if i < 0 then -i else i)) := rfl
omit [Tb] in
@[simp ↓] theorem pMax2_i (i j : Int) (R : PyData → Prop) : pMax2 [.int i, .int j] R = R (.int (if j > i then j else i)) := rfl
omit [Tb] in
@[simp ↓] theorem pMin2_i (i j : Int) (R : PyData → Prop) : pMin2 [.int i, .int j] R = R (.int (if j < i then j else i)) := rfl
omit [Tb] in
@[simp ↓] theorem pSum_l (ds : List PyData) (R : PyData → Prop) : pSum [.list ds] R = onIs ds (fun ns => R (.int ns.sum)) .mk := rfl
omit [Tb] in
@[simp ↓] theorem pMax_l (ds : List PyData) (R : PyData → Prop) : pMax [.list ds] R = onIs ds (fun ns => 0 < ns.length ∧ ∀ m, m ∈ ns → (∀ y ∈ ns, y ≤ m) → R (.int m)) .mk := rfl
omit [Tb] in
@[simp ↓] theorem pMin_l (ds : List PyData) (R : PyData → Prop) : pMin [.list ds] R = onIs ds (fun ns => 0 < ns.length ∧ ∀ m, m ∈ ns → (∀ y ∈ ns, m ≤ y) → R (.int m)) .mk := rfl
omit [Tb] in
@[simp ↓] theorem pAll_l (ds : List PyData) (R : PyData → Prop) : pAll [.list ds] R = onBs ds (fun bs => R (.bool (allTr bs))) .mk := rfl
omit [Tb] in
@[simp ↓] theorem pAny_l (ds : List PyData) (R : PyData → Prop) : pAny [.list ds] R = onBs ds (fun bs => R (.bool (anyTr bs))) .mk := rfl
omit [Tb] in
@[simp ↓] theorem pRepr_x (x : PyData) (R : PyData → Prop) : pRepr [x] R = (x.showable = true ∧ x.hasDict = false ∧ x.depth ≤ 60 ∧ x.shown.length ≤ 16000000 ∧ R (.str x.shown)) := rfl
omit [Tb] in
@[simp ↓] theorem wIsi_ap (T : String) (w : DE) (δ : DS) (R : Opd → DS → Prop) : wIsi T w δ R = (w δ fun o δ1 => use o δ1 fun x => R (.d (.bool (isTy T x))) δ1) := rfl
omit [Tb] in
@[simp ↓] theorem wRevL_ap (w : DE) (δ : DS) (R : Opd → DS → Prop) : wRevL w δ R = (w δ fun o δ1 => use o δ1 fun x => ∃ ds, x = .list ds ∧ R (.d (.list ds.reverse)) δ1) := rfl
omit [Tb] in
@[simp] theorem tT_ap (δ : DS) (R : Bool → DS → Prop) : tT δ R = R true δ := rfl
omit [Tb] in
@[simp ↓] theorem wipeD_nil (δ : DS) : wipeD δ [] = δ := rfl
omit [Tb] in
@[simp ↓] theorem wipeD_cons (δ : DS) (v : Nat) (vs : List Nat) : wipeD δ (v :: vs) = (wipeD δ vs).set v .em := rfl
omit [Tb] in
@[simp] theorem backD_nil (δ0 δ : DS) : backD δ0 δ [] = δ := rfl
omit [Tb] in
@[simp] theorem backD_cons (δ0 δ : DS) (v : Nat) (vs : List Nat) : backD δ0 δ (v :: vs) = (backD δ0 δ vs).set v (keepC ((δ0[v]?).getD .em)) := rfl
omit [Tb] in
@[simp] theorem keepC_d (x : PyData) : keepC (.d x) = .d x := rfl
omit [Tb] in
@[simp] theorem keepC_em : keepC .em = .em := rfl
omit [Tb] in
@[simp ↓] theorem isOl_ol (a : Addr) (xs : List PyData) (δ : DS) (i : Nat) (h : δ[i]? = some (.ol a xs)) : isOl δ i = True := eq_true ⟨a, xs, h⟩
omit [Tb] in
@[simp] theorem seqOf_l (xs : List PyData) : seqOf (.list xs) = some xs := rfl
omit [Tb] in
@[simp] theorem seqOf_t (xs : List PyData) : seqOf (.tuple xs) = some xs := rfl
omit [Tb] in
@[simp] theorem endsOf_nx (cs : List Cell) (R : PyData → List Cell → Prop) (δ : DS) : (endsOf cs R).nx δ = (sameIo cs δ ∧ R .none (outC cs δ)) := rfl
omit [Tb] in
@[simp] theorem endsOf_rt (cs : List Cell) (R : PyData → List Cell → Prop) (x : PyData) (δ : DS) : (endsOf cs R).rt x δ = (sameIo cs δ ∧ R x (outC cs δ)) := rfl
omit [Tb] in
@[simp] theorem sameIo_nil (δ : DS) : sameIo [] δ = True := by unfold sameIo; rfl
omit [Tb] in
@[simp] theorem sameIo_d (x : PyData) (cs : List Cell) (e : Cell) (δ : DS) : sameIo (.d x :: cs) (e :: δ) = sameIo cs δ := rfl
omit [Tb] in
@[simp] theorem sameIo_em (cs : List Cell) (e : Cell) (δ : DS) : sameIo (.em :: cs) (e :: δ) = sameIo cs δ := rfl
omit [Tb] in
@[simp] theorem sameIo_scr (a : Addr) (ns : List Int) (cs : List Cell) (e : Cell) (δ : DS) : sameIo (.scr a ns :: cs) (e :: δ) = sameIo cs δ := rfl
omit [Tb] in
@[simp] theorem sameIo_ol (a : Addr) (xs : List PyData) (cs : List Cell) (e : Cell) (δ : DS) : sameIo (.ol a xs :: cs) (e :: δ) = ((∃ ys, e = .ol a ys) ∧ sameIo cs δ) := rfl
omit [Tb] in
@[simp] theorem sameIo_dk (a b c : Addr) (cs : List Cell) (e : Cell) (δ : DS) : sameIo (.dk a b c :: cs) (e :: δ) = (e = .dk a b c ∧ sameIo cs δ) := rfl
omit [Tb] in
@[simp] theorem outC_nil (δ : DS) : outC [] δ = [] := by unfold outC; rfl
omit [Tb] in
@[simp] theorem outC_d (x : PyData) (cs : List Cell) (e : Cell) (δ : DS) : outC (.d x :: cs) (e :: δ) = .d x :: outC cs δ := rfl
omit [Tb] in
@[simp] theorem outC_em (cs : List Cell) (e : Cell) (δ : DS) : outC (.em :: cs) (e :: δ) = .em :: outC cs δ := rfl
omit [Tb] in
@[simp] theorem outC_scr (a : Addr) (ns : List Int) (cs : List Cell) (e : Cell) (δ : DS) : outC (.scr a ns :: cs) (e :: δ) = .scr a ns :: outC cs δ := rfl
omit [Tb] in
@[simp] theorem outC_ol (a : Addr) (xs : List PyData) (cs : List Cell) (e : Cell) (δ : DS) : outC (.ol a xs :: cs) (e :: δ) = e :: outC cs δ := rfl
omit [Tb] in
@[simp] theorem outC_dk (a b c : Addr) (cs : List Cell) (e : Cell) (δ : DS) : outC (.dk a b c :: cs) (e :: δ) = e :: outC cs δ := rfl
omit [Tb] in
@[simp] theorem start0_ap (n : Nat) (cs : List Cell) : start0 n cs = cs ++ List.replicate (n - cs.length) .em := rfl
theorem for_inv {g : DTG} {b : DTS} {xs : List PyData} {δ : DS} {E : DEnds} {u : Stop E} (P : List PyData → DS → Prop) (Q : DS → Prop) (Z : PyData → DS → Prop) (h : P xs δ) (h0 : ∀ δ, P [] δ → E.nx δ) (hq : ∀ δ, Q δ → E.nx δ) (hz : ∀ x δ, Z x δ → E.rt x δ)
    (hs : ∀ x xs δ, P (x :: xs) δ → ∀ (K B : DS → Prop) (T : PyData → DS → Prop), (∀ δ', P xs δ' → K δ') → (∀ δ', Q δ' → B δ') → (∀ x δ', Z x δ' → T x δ') → g x δ fun δ1 => b { nx := K, rt := T, bk := B, ct := K } δ1) : forC g b xs δ E u := by
  show forIt g b xs E δ
  induction xs generalizing δ with
  | nil => exact h0 δ h
  | cons x xs ih => exact hs x xs δ h _ _ _ (fun δ' p => ih p) hq hz
theorem com_inv {g : DTG} {t : DT} {e : DE} {vs : List Nat} {xs acc : List PyData} {δ : DS} {R : List PyData → DS → Prop} {u : Stop R} (P : List PyData → List PyData → DS → Prop) (h : P xs acc δ) (h0 : ∀ acc δ, P [] acc δ → R acc δ)
    (hs : ∀ x xs acc δ, P (x :: xs) acc δ → ∀ K : List PyData → DS → Prop, (∀ acc' δ', P xs acc' δ' → K acc' δ') → g x δ fun δ1 => t δ1 fun b δ2 => if b = true then e δ2 fun o δ3 => lk o δ3 fun y δ4 => K (acc ++ [y]) (wipeD δ4 vs) else K acc (wipeD δ2 vs)) : comC g t e vs xs acc δ R u := by
  show compIt g t e vs xs acc δ R
  induction xs generalizing acc δ with
  | nil => exact h0 acc δ h
  | cons x xs ih => exact hs x xs acc δ h (fun acc' δ' => compIt g t e vs xs acc' δ' R) fun acc' δ' p => ih p
/-- each item by one of many -/
theorem com_any {g : DTG} {t : DT} {e : DE} {vs : List Nat} {xs : List PyData} {δ : DS} {R : List PyData → DS → Prop} {u : Stop R} (Q : PyData → Prop)
    (hs : ∀ x ∈ xs, ∀ (acc : List PyData) (K : List PyData → DS → Prop), (∀ y, Q y → K (acc ++ [y]) δ) → g x δ fun δ1 => t δ1 fun b δ2 => if b = true then e δ2 fun o δ3 => lk o δ3 fun y δ4 => K (acc ++ [y]) (wipeD δ4 vs) else K acc (wipeD δ2 vs)) (k : ∀ ys, ys.length = xs.length → (∀ y ∈ ys, Q y) → R ys δ) : comC g t e vs xs [] δ R u := by
  refine com_inv (fun ys acc δ' => δ' = δ ∧ (∀ x ∈ ys, x ∈ xs) ∧ (∀ y ∈ acc, Q y) ∧ acc.length + ys.length = xs.length) ⟨rfl, fun _ h => h, by simp, by simp⟩ ?_ ?_
  · rintro acc δ' ⟨rfl, _, h, hl⟩
    exact k acc (by simpa using hl) h
  · rintro x ys acc δ' ⟨rfl, hm, h, hl⟩ K hK
    refine hs x (hm x (List.mem_cons_self ..)) acc K fun y qy => hK _ _ ⟨rfl, fun y hy => hm y (List.mem_cons_of_mem _ hy), fun z hz => ?_, by simp at hl ⊢; omega⟩
    rcases List.mem_append.mp hz with q | q
    · exact h z q
    · rw [List.mem_singleton.mp q]; exact qy
theorem ints_of : ∀ {ys : List PyData} {P : Int → Prop}, (∀ y ∈ ys, ∃ i, y = .int i ∧ P i) → ∃ ns : List Int, ys = ns.map PyData.int ∧ ∀ i ∈ ns, P i
  | [], _, _ => ⟨[], rfl, by simp⟩
  | y :: ys, P, h => by
    obtain ⟨i, rfl, hi⟩ := h y (List.mem_cons_self ..)
    obtain ⟨ns, rfl, hn⟩ := ints_of (ys := ys) fun z hz => h z (List.mem_cons_of_mem _ hz)
    exact ⟨i :: ns, rfl, fun j hj => by
      rcases List.mem_cons.mp hj with q | q
      · rw [q]; exact hi
      · exact hn j q⟩
/-- .. that are numbers -/
theorem com_ints {g : DTG} {t : DT} {e : DE} {vs : List Nat} {xs : List PyData} {δ : DS} {R : List PyData → DS → Prop} {u : Stop R} (P : Int → Prop)
    (hs : ∀ x ∈ xs, ∀ (acc : List PyData) (K : List PyData → DS → Prop), (∀ i, P i → K (acc ++ [.int i]) δ) → g x δ fun δ1 => t δ1 fun b δ2 => if b = true then e δ2 fun o δ3 => lk o δ3 fun y δ4 => K (acc ++ [y]) (wipeD δ4 vs) else K acc (wipeD δ2 vs)) (k : ∀ ns : List Int, ns.length = xs.length → (∀ i ∈ ns, P i) → R (ns.map PyData.int) δ) : comC g t e vs xs [] δ R u :=
  com_any (fun y => ∃ i, y = .int i ∧ P i) (fun x hx acc K hK => hs x hx acc K fun i hi => hK _ ⟨i, rfl, hi⟩) fun ys hl hy => by
    obtain ⟨ns, rfl, hn⟩ := ints_of hy
    exact k ns (by simpa using hl) hn
omit [Tb] in
@[simp ↓] theorem pEq_ii (i j : Int) (R : PyData → Prop) : pEq (.int i) (.int j) R = R (.bool (decide (i = j))) := by
  unfold pEq; simp [sc2, PyData.eqv]; rfl
omit [Tb] in
@[simp ↓] theorem pEq_ss (i j : Str) (R : PyData → Prop) : pEq (.str i) (.str j) R = R (.bool (decide (i = j))) := by
  unfold pEq; simp [sc2, PyData.eqv]
  have : (i == j) = decide (i = j) := by rw [Bool.eq_iff_iff]; simp
  rw [this]
omit [Tb] in
@[simp ↓] theorem pEq_bb (i j : Bool) (R : PyData → Prop) : pEq (.bool i) (.bool j) R = R (.bool (i == j)) := by
  unfold pEq; simp [sc2, PyData.eqv]
omit [Tb] in
@[simp ↓] theorem pEq_tt (xs ys : List PyData) (R : PyData → Prop) : pEq (.tuple xs) (.tuple ys) R = (SeqAt.shaped (.tuple xs) = true ∧ SeqAt.shaped (.tuple ys) = true ∧ R (.bool (PyData.eqvAll xs ys))) := by
  unfold pEq; simp [sc2, PyData.eqv, and_assoc]
omit [Tb] in
@[simp ↓] theorem pEq_ll (xs ys : List PyData) (R : PyData → Prop) : pEq (.list xs) (.list ys) R = (SeqAt.shaped (.list xs) = true ∧ SeqAt.shaped (.list ys) = true ∧ R (.bool (PyData.eqvAll xs ys))) := by
  unfold pEq; simp [sc2, PyData.eqv, and_assoc]
omit [Tb] in
@[simp ↓] theorem pNe_ii (i j : Int) (R : PyData → Prop) : pNe (.int i) (.int j) R = R (.bool (!decide (i = j))) := by
  unfold pNe; simp [sc2, PyData.eqv]; rfl
omit [Tb] in
@[simp ↓] theorem pNe_ss (i j : Str) (R : PyData → Prop) : pNe (.str i) (.str j) R = R (.bool (!decide (i = j))) := by
  unfold pNe; simp [sc2, PyData.eqv]
  have : (i == j) = decide (i = j) := by rw [Bool.eq_iff_iff]; simp
  simp only [bne, this]
omit [Tb] in
@[simp ↓] theorem pNe_bb (i j : Bool) (R : PyData → Prop) : pNe (.bool i) (.bool j) R = R (.bool (!(i == j))) := by
  unfold pNe; simp [sc2, PyData.eqv]
omit [Tb] in
@[simp ↓] theorem pNe_tt (xs ys : List PyData) (R : PyData → Prop) : pNe (.tuple xs) (.tuple ys) R = (SeqAt.shaped (.tuple xs) = true ∧ SeqAt.shaped (.tuple ys) = true ∧ R (.bool (!PyData.eqvAll xs ys))) := by
  unfold pNe; simp [sc2, PyData.eqv, and_assoc]
omit [Tb] in
@[simp ↓] theorem pNe_ll (xs ys : List PyData) (R : PyData → Prop) : pNe (.list xs) (.list ys) R = (SeqAt.shaped (.list xs) = true ∧ SeqAt.shaped (.list ys) = true ∧ R (.bool (!PyData.eqvAll xs ys))) := by
  unfold pNe; simp [sc2, PyData.eqv, and_assoc]
end DL
set_option Elab.async false
set_option linter.all false
set_option maxRecDepth 100000
set_option maxHeartbeats 4000000
namespace DL
open PySem PySem.Spec PyProof.Rows L2
variable [Tb]

section
variable {K : PySem.W.Frag} {B B0 G H : Hp} {δ : DS} {σ : L2.St}
theorem Rel.less (R : Rel K B G δ σ H) (h : ∀ a, B0 a = B a ∨ B0 a = none) : Rel K B0 G δ σ H := by
  refine ⟨R.len, R.sg, fun a o e => ?_, fun a => ?_, R.ok, R.ap, fun i c a e m => ?_, ⟨R.tt.t, R.tt.n.lessB fun a o e => by
    rcases h a with z | z
    · rw [z] at e; exact e
    · rw [z] at e; cases e⟩⟩
  · rcases h a with z | z
    · rw [z] at e; exact R.sb _ _ e
    · rw [z] at e; cases e
  · rcases h a with z | z
    · rw [z]; exact R.dj a
    · exact .inr z
  · obtain ⟨f1, f2⟩ := R.fr i c a e m
    refine ⟨f1, ?_⟩
    rcases h a with z | z
    · rw [z]; exact f2
    · exact z
theorem Rel.more {l : List Addr} (R : Rel K B G δ σ H) (hg : ∀ a ∈ l, G a = none) (hc : ∀ (i : Nat) (c : Cell) (a : Addr), δ[i]? = some c → a ∈ c.fp → a ∉ l) (hn : ∀ a ∈ l, ∀ o, H a = some o → notTE o) : Rel K (bov B H l) G δ σ H := by
  refine ⟨R.len, R.sg, fun a o e => ?_, fun a => ?_, R.ok, R.ap, fun i c a e m => ?_, ⟨R.tt.t, ⟨fun a o e => by
    unfold bov at e
    split at e
    · rename_i hm; exact hn a hm o e
    · exact R.tt.n.b a o e, R.tt.n.g⟩⟩⟩
  · unfold bov at e
    split at e
    · exact e
    · exact R.sb _ _ e
  · unfold bov
    split
    · rename_i hm; exact .inl (hg a hm)
    · exact R.dj a
  · obtain ⟨f1, f2⟩ := R.fr i c a e m
    refine ⟨f1, ?_⟩
    unfold bov
    rw [if_neg (hc i c a e m)]; exact f2
end

abbrev DSpM := List Cell → (Cell → List Cell → Prop) → Prop
def liftM (K : PySem.W.Frag) (sp : DSpM) : Sp := fun vs H Q _ => ∃ B G cs R, Rel K B G cs (vs.map some) H ∧ sp cs R ∧ ∀ v H' G' c cs', R c cs' → Same G G' → Rel K (bov B H' c.fp) G' cs' (vs.map some) H' → (∀ a ∈ c.fp, B a = none) → CellOk K G' H' c (some v) → Q v H'
def wCallM (m : List Bool) (sp : DSpM) (w : DA) : DM := fun δ R => w δ fun os δ1 => lkM m os δ1 fun os' δ2 => (slotsOf os').Nodup ∧ sp (os'.map (cellOf δ2)) fun c cs => R c (putBack os' cs δ2)
def askM (sp : DSpM) (cs : List Cell) (R : Cell → List Cell → Prop) (_u : Stop R) : Prop := sp cs R
omit [Tb] in
@[simp ↓] theorem wCallM_ap (m : List Bool) (sp : DSpM) (w : DA) (δ : DS) (R : Cell → DS → Prop) : wCallM m sp w δ R = (w δ fun os δ1 => lkM m os δ1 fun os' δ2 => (slotsOf os').Nodup ∧ askM sp (os'.map (cellOf δ2)) (fun c cs => R c (putBack os' cs δ2)) .mk) := rfl
section
variable {X : Cx} {k : Nat} {f : Addr} {fd : FuncData} {ps : List Str} {x : Str} {p pos : Pos} {e : Expr} {es : List Expr}
theorem jm_call {m : List Bool} {sp : DSpM} {w : DA} (F : FnG X.prog X.w X.K X.mg X.base CX0 k f fd ps (liftM X.K sp)) (hr : RoomG k X.A) (hg : Gl X x) (hm : X.mg x = some (.ref f)) (hk : PySem.W.keepIn X.K (.ref f) = true) (hb : Binds X.K fd ps [])
    (ha : JA X (e :: es) w) (hdb : (x == ("__debug__" : Str)) = false := by decide) (he : starEach (e :: es) X.env = (false, eval e X.env) :: starEach es X.env := by rfl) (hpl : (backTo pos (starEach es X.env)).any (·.1) = false := by rfl) : JM X (.Call (.Name x p) (e :: es) [] pos) (wCallM m sp w) :=
  pe_le (pe_callG (E := E0) F hr hg hm hk hb pass0 ha hdb he hpl) fun pins s σ H Q I ⟨B, G, δ, R, rel, hw, k⟩ => ⟨B, G, δ, _, rel, hw, fun vs H1 G1 os δ1 r1 s1 rel1 ok1 => by
    obtain ⟨G2, δ2, os', ⟨nd, q⟩, s2, rel2, ok2⟩ := lkM_ok rel1 ok1 r1
    rw [List.append_nil]
    refine ⟨_, G2, _, _, call_rel rel2 ok2 nd, q, fun v H' G' c cs r s3 rel3 hB okc => ?_⟩
    have low : Rel X.K (hold B H1 δ2 (slotsOf os')) G' cs (vs.map some) H' := rel3.less fun a => by
      unfold bov
      split
      · rename_i hm; exact .inr (hB a hm)
      · exact .inl rfl
    have rel4 := call_back rel2 ok2 nd s3 low
    have hlen : os'.length = cs.length := by rw [← opds_len ok2, ← low.len, List.length_map]
    have tr : ∀ a ∈ c.fp, ∃ o, H' a = some o := fun a m => cell_tr okc m
    have hB0 : ∀ a ∈ c.fp, B a = none := fun a m => by
      have z := hB a m
      by_cases h : ∃ i c, δ2[i]? = some c ∧ a ∈ c.fp ∧ i ∉ slotsOf os'
      · obtain ⟨i, c', h1, h2, _⟩ := h
        exact (rel2.fr i c' a h1 h2).2
      · rw [hold_out h] at z; exact z
    have hG : ∀ a ∈ c.fp, G' a = none := fun a m => by
      rcases rel3.dj a with z | z
      · exact z
      · unfold bov at z
        rw [if_pos m] at z
        obtain ⟨o, eo⟩ := tr a m
        rw [eo] at z; cases z
    refine k v H' G' c _ r (s1.trans (s2.trans s3)) (rel4.more hG (fun i c' a e m ma => ?_) fun a m => cell_te okc m) hB0 okc
    rcases putBack_at hlen nd e with ⟨h1, h2⟩ | ⟨j, h1, h2⟩
    · have z := hB a ma
      rw [hold_in ⟨i, c', h2, m, h1⟩] at z
      obtain ⟨o, eo⟩ := rel2.tr h2 m
      rw [eo] at z; cases z
    · obtain ⟨_, f2⟩ := rel3.fr j c' a h2 m
      unfold bov at f2
      rw [if_pos ma] at f2
      obtain ⟨o, eo⟩ := tr a ma
      rw [eo] at f2; cases f2⟩
end

def spDeck : DSpM := fun cs R => ∃ a ns, cs = [.scr a ns] ∧ ∀ p b c, R (.dk p b c) [.scr a ns]
/-- script[:63] -/
def wCut (i : Nat) : DE := fun δ R => ∃ a ns, δ[i]? = some (.scr a ns) ∧ R (.d (.list ((ns.take 63).map PyData.int))) δ
omit [Tb] in
@[simp ↓] theorem wCut_ap (i : Nat) (δ : DS) (R : Opd → DS → Prop) : wCut i δ R = (∃ a ns, δ[i]? = some (.scr a ns) ∧ R (.d (.list ((ns.take 63).map PyData.int))) δ) := rfl
theorem cutV_take (xs : List V) (n : Nat) : cutV xs none (some (n : Int)) = xs.take n := by
  unfold cutV
  rw [HT.sIx_none, HT.sIx_nat]
  simp only [List.drop_zero, Nat.sub_zero]
  by_cases h : n ≤ xs.length
  · rw [Nat.min_eq_left h]
  · rw [Nat.min_eq_right (by omega), List.take_of_length_le (by omega), List.take_of_length_le (by omega)]
theorem je_cut {X : Cx} {i : Nat} {x : Str} {px p1 p2 pos : Pos} {k1} (h : PE X (.Name x px) (tVar i)) : JE X (.Subscript (.Name x px) (.Slice none (some (.Constant (.int 63) k1 p1)) none p2) pos) (wCut i) :=
  pe_le (pe_slice sl_list h po_none (po_some pe_int)) fun pins s σ H Q I ⟨B, G, δ, R, rel, ⟨a, ns, hδ, hw⟩, k⟩ => by
    obtain ⟨o, hσ, rfl, hq⟩ := rel.at hδ
    refine ⟨.ref a, hσ, 63, rfl, a, ns.map V.int, rfl, rel.sg.seq hq, fun p np => ?_⟩
    obtain ⟨rel3, s3⟩ := rel.laid (o := .lst (cutV (ns.map V.int) none (some 63))) np
    refine k _ _ _ _ _ hw s3 rel3 (Dn.lst upd_same ?_)
    rw [show (63 : Int) = ((63 : Nat) : Int) from rfl, cutV_take, ← List.map_take]
    exact DnL.ints _
def wDk1 : DTS := wSet 1 (mL (wComp (iSeq (wCut 0)) (gN 2) tT (wFn pAbs (wCons (wVar 2) wNil)) [2]))
def wDk2 : DMs := msCons (mL (wComp (iSeq (wVar 1)) (gN 2) (wB (wOp pGe (wVar 2) (wOp pPow (wC (.int 10)) (wC (.int 18))))) (wVar 2) [2]))
  (msCons (mL (wOpL pAddL (wVar 1) (wOfL (wLst (wCons (wOp pAdd (wC (.int 11228)) (wFn pLen (wCons (wVar 1) wNil))) wNil))))) (msCons (mE (wC (.int 0))) msNil))
theorem comp_abs {δ : DS} {R : List PyData → DS → Prop} {d0 d1 : Cell} (hd : δ = [d0, d1, .em]) (k : ∀ ms : List Int, ms.length ≤ 63 → R (ms.map PyData.int) δ) (ns : List Int) (hn : ns.length ≤ 63) :
    compIt (gN 2) tT (wFn pAbs (wCons (wVar 2) wNil)) [2] (ns.map PyData.int) [] δ R := by
  refine com_inv (u := .mk) (fun xs acc δ' => δ' = δ ∧ ∃ ns ms : List Int, xs = ns.map PyData.int ∧ acc = ms.map PyData.int ∧ ms.length + ns.length ≤ 63) ⟨rfl, ns, [], rfl, rfl, by simpa using hn⟩ ?_ ?_
  · rintro acc δ' ⟨rfl, ns, ms, h1, rfl, h3⟩
    exact k ms (by omega)
  · rintro x xs acc δ' ⟨rfl, ns, ms, h1, rfl, h3⟩ K ih
    cases ns with
    | nil => cases h1
    | cons n ns =>
      simp only [List.map_cons, List.cons.injEq] at h1
      obtain ⟨rfl, rfl⟩ := h1
      subst hd
      simp
      exact ih _ _ ⟨rfl, ns, ms ++ [if n < 0 then -n else n], rfl, by simp, by simp at h3 ⊢; omega⟩
theorem comp_ge {δ : DS} {R : List PyData → DS → Prop} {d0 d1 : Cell} (hd : δ = [d0, d1, .em]) (k : ∀ ms : List Int, (∀ x ∈ ms, 0 ≤ x) → R (ms.map PyData.int) δ) (ns : List Int) :
    compIt (gN 2) (wB (wOp pGe (wVar 2) (wOp pPow (wC (.int 10)) (wC (.int 18))))) (wVar 2) [2] (ns.map PyData.int) [] δ R := by
  refine com_inv (u := .mk) (fun xs acc δ' => δ' = δ ∧ ∃ ns ms : List Int, xs = ns.map PyData.int ∧ acc = ms.map PyData.int ∧ ∀ x ∈ ms, 0 ≤ x) ⟨rfl, ns, [], rfl, rfl, by simp⟩ ?_ ?_
  · rintro acc δ' ⟨rfl, ns, ms, h1, rfl, h3⟩
    exact k ms h3
  · rintro x xs acc δ' ⟨rfl, ns, ms, h1, rfl, h3⟩ K ih
    cases ns with
    | nil => cases h1
    | cons n ns =>
      simp only [List.map_cons, List.cons.injEq] at h1
      obtain ⟨rfl, rfl⟩ := h1
      subst hd
      simp [CPow]
      split
      · exact ih _ _ ⟨rfl, ns, ms ++ [n], rfl, by simp, fun x hx => by
          rcases List.mem_append.mp hx with q | q
          · exact h3 x q
          · rw [List.mem_singleton.mp q]; omega⟩
      · exact ih _ _ ⟨rfl, ns, ms, rfl, rfl, h3⟩
theorem ok_deck {P : Program} {w : World} {K : PySem.W.Frag} {mg : Str → Option Value} {base : Heap} {x qual : Str} {st : Stmt} {f : Addr} {fd : FuncData} {N ps : List Str} {k : Nat} {st1 : Stmt} {es : List Expr} {p1 p2 : Pos} (F : Fun K x qual st f fd) (S : FnScope N ps (defScope st)) (hN : N.length = 3) (hp : ps.length = 1)
    (hb : defBody st = [st1, .Return (some (.List es p1)) p2])
    (h1 : ∀ (cdv : Value) (A : Around) (outer : List Env) (s : Shared) (H : Hp) (E : XK), RoomG k (A.deeper (envOfC qual (defScope st) s.heap.objs.size f cdv)) → JS (cxOf CX0 P w K mg base N qual (defScope st) f cdv A outer s H E).nox st1 wDk1)
    (h2 : ∀ (cdv : Value) (A : Around) (outer : List Env) (s : Shared) (H : Hp) (E : XK), RoomG k (A.deeper (envOfC qual (defScope st) s.heap.objs.size f cdv)) → JMs (cxOf CX0 P w K mg base N qual (defScope st) f cdv A outer s H E).nox es wDk2) : FnG P w K mg base CX0 (k + 1) f fd ps (liftM K spDeck) := by
  obtain ⟨oc, od, kV, doc, pm, an, cdv, ct, osl, rfl, lk', hcd⟩ := F.ex
  refine fnG_of lk' hcd S (fun vs H Q E ⟨B, G, cs, R, rel, ⟨a, ns, e, _⟩, _⟩ => by have := rel.len; subst e; simp at this; omega) fun A outer s H vs Q E hr ⟨B, G, cs, R, rel, ⟨a, ns, e, hR⟩, kk⟩ => ?_
  subst e
  rw [hb]
  refine ⟨_, (pss_cons (h1 cdv A outer s H E hr) (pss_one (ps_ret (pe_lst (h2 cdv A outer s H E hr))))).nox, ?_⟩
  have e0 : start0 N.length [Cell.scr a ns] = [.scr a ns, .em, .em] := by rw [hN]; rfl
  refine ⟨B, G, [.scr a ns, .em, .em], { nx := fun δ => ∃ q xs, δ = [.scr a ns, .ol q (xs.map PyData.int), .em] ∧ (xs : List Int).length ≤ 63, rt := fun _ _ => False }, e0 ▸ rel_start rel, ?_, ?_⟩
  · unfold wDk1
    simp
    refine ⟨a, ns, ⟨rfl, rfl⟩, ?_⟩
    rw [← List.map_take]
    exact comp_abs rfl (fun ms hm q => ⟨q, ms, by simp [hm]⟩) _ (by rw [List.length_take]; omega)
  · refine ⟨?_, fun _ _ _ _ _ _ h => h.elim, fun _ _ _ _ h => h.elim, fun _ _ _ _ h => h.elim⟩
    rintro σ1 H1 G1 δ1 ⟨q, xs, rfl, hx⟩ s1 rel1
    refine ⟨B, G1, _, fun cs δ => ∃ (q1 q2 : Addr) (ms ys : List Int) (d1 : Cell), cs = [.ol q1 (ms.map PyData.int), .ol q2 (ys.map PyData.int), .d (.int 0)] ∧ δ = [.scr a ns, d1, .em] ∧ (∀ x ∈ ms, (0 : Int) ≤ x) ∧ ys ≠ [], rel1, ?_, ?_⟩
    · unfold wDk2
      simp
      refine comp_ge rfl (fun ms hm q1 => ?_) _
      simp
      refine ⟨by omega, fun q2 => ⟨q1, q2, ms, xs ++ [11228 + (xs.length : Int)], ⟨⟨rfl, rfl⟩, rfl, by simp⟩, hm, by simp⟩⟩
    · rintro vs2 H2 G2 cs δ2 ⟨b, c, ms, ys, d1, rfl, rfl, hm, hy⟩ s2 rel2 hB2 ok2
      cases ok2 with
      | cons o1 n1 t1 =>
        cases t1 with
        | cons o2 n2 t2 =>
          cases t2 with
          | cons o3 n3 t3 =>
            cases t3
            obtain ⟨e1, w1, hb, t1⟩ := o1
            obtain ⟨e2, w2, hc, t2⟩ := o2
            obtain ⟨v3, e3, t3⟩ := o3
            cases e1
            cases e2
            cases e3
            obtain rfl := t1.toInts
            obtain rfl := t2.toInts
            obtain rfl := dn_int t3
            refine ⟨by show 3 ≤ sizeLine; rw [sizeLine_eq]; omega, fun p np => ?_⟩
            have bc : b ≠ c := fun e => n1 b (by simp [Cell.fp]) (by simp [fps, Cell.fp, e])
            have pb : p ≠ b := fun e => by rw [e, hb] at np; cases np
            have pc : p ≠ c := fun e => by rw [e, hc] at np; cases np
            have rel3 := rel_end rel (rel2.growB (o := .lst [.ref b, .ref c, .int 0]) np |>.less (B0 := B) fun a => ?_) (s1.trans s2) (show sameIo [Cell.scr a ns] _ from trivial)
            · have eb : (fps [Cell.ol b (ms.map PyData.int), Cell.ol c (ys.map PyData.int), Cell.d (.int 0)]) = [b, c] := rfl
              rw [eb] at rel2 hB2
              have hB : ∀ a ∈ [p, b, c], B a = none := fun a m => by
                rcases List.mem_cons.mp m with e | m
                · rw [e]
                  have z := rel2.freeB np
                  unfold bov at z
                  rw [if_neg (by simp [pb, pc])] at z; exact z
                · exact hB2 a m
              refine kk _ _ G2 (.dk p b c) _ (hR p b c) (s1.trans s2) (rel3.more (fun a m => ?_) ?_ fun a m => cell_te (K := K) (G := G2) (c := .dk p b c) (o := some (.ref p)) ⟨rfl, pb, pc, bc, 0, ms, ys, upd_same, by rw [upd_ne pb.symm]; exact hb, by rw [upd_ne pc.symm]; exact hc, hy, hm⟩ m) hB ⟨rfl, pb, pc, bc, 0, ms, ys, upd_same, by rw [upd_ne pb.symm]; exact hb, by rw [upd_ne pc.symm]; exact hc, hy, hm⟩
              · rcases List.mem_cons.mp m with e | m
                · rw [e]; exact rel2.freeG np
                · rcases rel2.dj a with z | z
                  · exact z
                  · unfold bov at z
                    rw [if_pos m] at z
                    have m' : a = b ∨ a = c := by simpa using m
                    rcases m' with rfl | rfl
                    · rw [hb] at z; cases z
                    · rw [hc] at z; cases z
              · intro i c' a' e m
                have : c' = .scr a ns := by
                  cases i with
                  | zero => simp [outC] at e; exact e.symm
                  | succ i => simp [outC] at e
                rw [this] at m; cases m
            · by_cases h : a = p
              · refine .inr ?_
                rw [h]
                have z := rel2.freeB np
                unfold bov at z
                split at z
                · rename_i hm2
                  rw [z] at np
                  have : H2 p = none := z
                  rcases (show p = b ∨ p = c by simpa [fps, Cell.fp] using hm2) with e | e
                  · exact absurd e pb
                  · exact absurd e pc
                · exact z
              · rw [upd_ne h]
                unfold bov
                split
                · rename_i hm2
                  exact .inr (hB2 a hm2)
                · exact .inl rfl
end DL
set_option Elab.async false
set_option linter.all false
set_option maxRecDepth 100000
set_option maxHeartbeats 4000000
namespace DL
open PySem PySem.Spec PyProof.Rows L2
variable [Tb]

section
variable {K : PySem.W.Frag} {B G H : Hp} {δ : DS} {σ : L2.St}
/-- an object of a slot's thing is changed -/
theorem Rel.put {i : Nat} {c c' : Cell} {p : Addr} {o : HO} {ov : Option V} (R : Rel K B G δ σ H) (h : δ[i]? = some c) (hσ : σ[i]? = some ov) (hp : p ∈ c.fp) (hf : c'.fp = c.fp) (ok : CellOk K G (upd H p o) c' ov) : Rel K B G (δ.set i c') σ (upd H p o) := by
  obtain ⟨ga, ba⟩ := R.fr i _ p h hp
  have hi : i < δ.length := (List.getElem?_eq_some_iff.mp h).1
  have get : ∀ {j : Nat} {x : Cell}, (δ.set i c')[j]? = some x → (j = i ∧ x = c') ∨ (j ≠ i ∧ δ[j]? = some x) := fun {j x} e => by
    by_cases hj : j = i
    · subst hj
      rw [List.getElem?_set_self hi] at e; cases e; exact .inl ⟨rfl, rfl⟩
    · rw [List.getElem?_set_ne (Ne.symm hj)] at e; exact .inr ⟨hj, e⟩
  refine ⟨by simp [R.len], fun b x q => ?_, fun b x q => ?_, R.dj, fun j x w e1 e2 => ?_, fun j k x y z e1 e2 m1 m2 => ?_, fun j x z e1 m => ?_, ⟨tabs_upd R.tt.t (cell_te (R.ok i c _ h hσ) hp), R.tt.n⟩⟩
  · rw [upd_ne (fun z => by rw [z, ga] at q; cases q)]; exact R.sg _ _ q
  · rw [upd_ne (fun z => by rw [z, ba] at q; cases q)]; exact R.sb _ _ q
  · rcases get e1 with ⟨rfl, rfl⟩ | ⟨hj, e1⟩
    · rw [hσ] at e2; cases e2; exact ok
    · refine (R.ok j x w e1 e2).stay (Same.refl _) fun b hb => upd_ne fun q => ?_
      rw [q] at hb
      exact hj (R.ap j i x _ p e1 h hb hp)
  · rcases get e1 with h1 | h1
    · obtain ⟨h1, e1'⟩ := h1
      rw [e1'] at m1
      rcases get e2 with ⟨h2, e3⟩ | ⟨h2, e3⟩
      · rw [h1, h2]
      · exact h1.trans (R.ap i k _ y z h e3 (by rw [← hf]; exact m1) m2)
    · rcases get e2 with ⟨h2, e3⟩ | ⟨h2, e3⟩
      · rw [e3] at m2
        exact (R.ap j i x _ z h1.2 h m1 (by rw [← hf]; exact m2)).trans h2.symm
      · exact R.ap j k x y z h1.2 e3 m1 m2
  · rcases get e1 with ⟨_, rfl⟩ | ⟨hj, e1⟩
    · exact R.fr i _ z h (by rw [← hf]; exact m)
    · exact R.fr j x z e1 m
/-- the deck is looked into, or closed -/
theorem Rel.swap {i : Nat} {c c' : Cell} {ov : Option V} (R : Rel K B G δ σ H) (h : δ[i]? = some c) (hσ : σ[i]? = some ov) (hf : c'.fp = c.fp) (ok : CellOk K G H c' ov) : Rel K B G (δ.set i c') σ H :=
  R.recell hσ ok fun a m => ⟨R.fr i c a h (by rw [← hf]; exact m), fun j x hj e m2 => hj (R.ap j i x c a e h m2 (by rw [← hf]; exact m))⟩
end

/-- deck[2] -/
def wK2 (i : Nat) : DE := fun δ R => ∃ a b c xs n ys, δ[i]? = some (.dx a b c xs n ys) ∧ R (.d (.int n)) δ
/-- deck[0][0] -/
def wK00 (i : Nat) : DE := fun δ R => ∃ a b c xs n ys x, δ[i]? = some (.dx a b c xs n ys) ∧ xs.head? = some x ∧ R (.d (.int x)) δ
/-- deck[0] != [] -/
def wKne (i : Nat) : DT := fun δ R => ∃ a b c xs n ys, δ[i]? = some (.dx a b c xs n ys) ∧ R (!xs.isEmpty) δ
/-- deck[1][e] -/
def wK1 (i : Nat) (w : DE) : DE := fun δ R => ∃ a b c xs n ys, δ[i]? = some (.dx a b c xs n ys) ∧ w δ fun o δ1 => use o δ1 fun d => ∃ j z, d = .int j ∧ δ1[i]? = some (.dx a b c xs n ys) ∧ atI ys j = some z ∧ R (.d (.int z)) δ1
/-- len(deck[1]) -/
def wKlen (i : Nat) : DE := fun δ R => ∃ a b c xs n ys, δ[i]? = some (.dx a b c xs n ys) ∧ R (.d (.int (ys.length : Nat))) δ
/-- deck[0][0] = e -/
def wPut00 (i : Nat) (w : DE) : DTS := fun E δ => w δ fun o δ1 => use o δ1 fun d => ∃ v a b c x xs n ys, d = .int v ∧ δ1[i]? = some (.dx a b c (x :: xs) n ys) ∧ E.nx (δ1.set i (.dx a b c (v :: xs) n ys))
/-- deck[0].pop(0) -/
def wPop0 (i : Nat) : DTS := fun E δ => ∃ a b c x xs n ys, δ[i]? = some (.dx a b c (x :: xs) n ys) ∧ E.nx (δ.set i (.dx a b c xs n ys))
/-- deck[2] = e -/
def wPut2 (i : Nat) (w : DE) : DTS := fun E δ => w δ fun o δ1 => use o δ1 fun d => ∃ v a b c xs n ys, d = .int v ∧ δ1[i]? = some (.dx a b c xs n ys) ∧ E.nx (δ1.set i (.dx a b c xs v ys))
def asX (c : Option Cell) (k : Addr → Addr → Addr → List Int → Int → List Int → Prop) : Prop := match c with
  | some (.dx a b c xs n ys) => k a b c xs n ys
  | _ => False
omit [Tb] in
@[simp ↓] theorem asX_x (a b c : Addr) (xs : List Int) (n : Int) (ys : List Int) (k : Addr → Addr → Addr → List Int → Int → List Int → Prop) : asX (some (.dx a b c xs n ys)) k = k a b c xs n ys := rfl
theorem ex_x (c : Option Cell) (k : Addr → Addr → Addr → List Int → Int → List Int → Prop) : (∃ p q r xs n ys, c = some (.dx p q r xs n ys) ∧ k p q r xs n ys) = asX c k := by
  cases c with
  | none => simp [asX]
  | some c =>
    cases c with
    | dx p q r xs n ys =>
      refine propext ⟨fun ⟨_, _, _, _, _, _, e, h⟩ => ?_, fun h => ⟨_, _, _, _, _, _, rfl, h⟩⟩
      cases e; exact h
    | _ => simp [asX]
def head1 (xs : List Int) (k : Int → List Int → Prop) : Prop := match xs with
  | x :: r => k x r
  | [] => False
omit [Tb] in
@[simp] theorem head1_c (x : Int) (xs : List Int) (k : Int → List Int → Prop) : head1 (x :: xs) k = k x xs := rfl
omit [Tb] in
@[simp ↓] theorem wK2_ap (i : Nat) (δ : DS) (R : Opd → DS → Prop) : wK2 i δ R = asX δ[i]? fun a b c xs n ys => R (.d (.int n)) δ := by
  rw [← ex_x]; rfl
omit [Tb] in
@[simp ↓] theorem wK00_ap (i : Nat) (δ : DS) (R : Opd → DS → Prop) : wK00 i δ R = asX δ[i]? fun a b c xs n ys => head1 xs fun x _ => R (.d (.int x)) δ := by
  rw [← ex_x]
  refine propext ⟨fun ⟨a, b, c, xs, n, ys, x, h, h2, q⟩ => ⟨a, b, c, xs, n, ys, h, ?_⟩, fun ⟨a, b, c, xs, n, ys, h, q⟩ => ?_⟩
  · cases xs with
    | nil => cases h2
    | cons y r => cases h2; exact q
  · cases xs with
    | nil => exact q.elim
    | cons y r => exact ⟨a, b, c, _, n, ys, y, h, rfl, q⟩
omit [Tb] in
@[simp ↓] theorem wKne_ap (i : Nat) (δ : DS) (R : Bool → DS → Prop) : wKne i δ R = asX δ[i]? fun a b c xs n ys => R (!xs.isEmpty) δ := by
  rw [← ex_x]; rfl
omit [Tb] in
@[simp ↓] theorem wK1_ap (i : Nat) (w : DE) (δ : DS) (R : Opd → DS → Prop) : wK1 i w δ R = asX δ[i]? fun a b c xs n ys => w δ fun o δ1 => use o δ1 fun d => asI d (fun j => δ1[i]? = some (.dx a b c xs n ys) ∧ onS (atI ys j) (fun z => R (.d (.int z)) δ1) .mk) .mk := by
  rw [← ex_x]; simp only [← ex_int, ← ex_some, ← exists_and_left]; rfl
omit [Tb] in
@[simp ↓] theorem wKlen_ap (i : Nat) (δ : DS) (R : Opd → DS → Prop) : wKlen i δ R = asX δ[i]? fun a b c xs n ys => R (.d (.int (ys.length : Nat))) δ := by
  rw [← ex_x]; rfl
omit [Tb] in
@[simp ↓] theorem wPut00_ap (i : Nat) (w : DE) (E : DEnds) (δ : DS) : wPut00 i w E δ = (w δ fun o δ1 => use o δ1 fun d => asI d (fun v => asX δ1[i]? fun a b c xs n ys => head1 xs fun _ r => E.nx (δ1.set i (.dx a b c (v :: r) n ys))) .mk) := by
  unfold wPut00
  simp only [← ex_x, ← ex_int]
  congr 1; funext o δ1; congr 1; funext d
  refine propext ⟨fun ⟨v, a, b, c, x, xs, n, ys, h0, h, q⟩ => ⟨v, h0, a, b, c, _, n, ys, h, q⟩, fun ⟨v, h0, a, b, c, xs, n, ys, h, q⟩ => ?_⟩
  cases xs with
  | nil => exact q.elim
  | cons y r => exact ⟨v, a, b, c, y, r, n, ys, h0, h, q⟩
omit [Tb] in
@[simp ↓] theorem wPop0_ap (i : Nat) (E : DEnds) (δ : DS) : wPop0 i E δ = asX δ[i]? fun a b c xs n ys => head1 xs fun _ r => E.nx (δ.set i (.dx a b c r n ys)) := by
  rw [← ex_x]
  refine propext ⟨fun ⟨a, b, c, x, xs, n, ys, h, q⟩ => ⟨a, b, c, _, n, ys, h, q⟩, fun ⟨a, b, c, xs, n, ys, h, q⟩ => ?_⟩
  cases xs with
  | nil => exact q.elim
  | cons y r => exact ⟨a, b, c, y, r, n, ys, h, q⟩
omit [Tb] in
@[simp ↓] theorem wPut2_ap (i : Nat) (w : DE) (E : DEnds) (δ : DS) : wPut2 i w E δ = (w δ fun o δ1 => use o δ1 fun d => asI d (fun v => asX δ1[i]? fun a b c xs n ys => E.nx (δ1.set i (.dx a b c xs v ys))) .mk) := by
  unfold wPut2
  simp only [← ex_x, ← ex_int]
  congr 1; funext o δ1; congr 1; funext d
  exact propext ⟨fun ⟨v, a, b, c, xs, n, ys, h0, h, q⟩ => ⟨v, h0, a, b, c, xs, n, ys, h, q⟩, fun ⟨v, h0, a, b, c, xs, n, ys, h, q⟩ => ⟨v, a, b, c, xs, n, ys, h0, h, q⟩⟩
section
variable {X : Cx} {i : Nat} {x : Str} {px pos p1 p2 p3 p4 p5 : Pos} {k1 k2 : Nat}
theorem atI_map {α β : Type} (f : α → β) (xs : List α) (j : Int) : atI (xs.map f) j = (atI xs j).map f := by
  unfold atI
  rw [List.length_map]
  cases ixN xs.length j with
  | none => rfl
  | some k => simp
theorem je_k2 (h : PE X (.Name x px) (tVar i)) : JE X (.Subscript (.Name x px) (.Constant (.int 2) k1 p1) pos) (wK2 i) :=
  pe_le (pe_ix ix_list h pe_int (fun _ _ => rfl)) fun pins s σ H Q I ⟨B, G, δ, R, rel, ⟨a, b, c, xs, n, ys, hδ, hw⟩, k⟩ => by
    obtain ⟨o, hσ, rfl, h1, h2, h3, e1, e2, e3⟩ := rel.at hδ
    exact ⟨.ref a, hσ, a, _, 2, .int n, rfl, rfl, SqL.of e1, rfl, k _ H G _ δ hw (Same.refl _) rel (Dn.int _)⟩
theorem je_k00 (h : PE X (.Name x px) (tVar i)) : JE X (.Subscript (.Subscript (.Name x px) (.Constant (.int 0) k1 p1) p2) (.Constant (.int 0) k2 p3) pos) (wK00 i) :=
  pe_le (pe_ix ix_list (pe_ix ix_list h pe_int (fun _ _ => rfl)) pe_int (fun _ _ => rfl)) fun pins s σ H Q I ⟨B, G, δ, R, rel, ⟨a, b, c, xs, n, ys, x, hδ, hx, hw⟩, k⟩ => by
    obtain ⟨o, hσ, rfl, h1, h2, h3, e1, e2, e3⟩ := rel.at hδ
    cases xs with
    | nil => cases hx
    | cons y xs =>
      cases hx
      exact ⟨.ref a, hσ, a, _, 0, .ref b, rfl, rfl, SqL.of e1, rfl, b, _, 0, .int x, rfl, rfl, SqL.of e2, by simp [atI, ixN], k _ H G _ δ hw (Same.refl _) rel (Dn.int _)⟩
theorem je_k1 {e : Expr} {w : DE} (h : PE X (.Name x px) (tVar i)) (he : JE X e w) (hs : PlainIx e) : JE X (.Subscript (.Subscript (.Name x px) (.Constant (.int 1) k1 p1) p2) e pos) (wK1 i w) :=
  pe_le (pe_ix ix_list (pe_ix ix_list h pe_int (fun _ _ => rfl)) he hs) fun pins s σ H Q I ⟨B, G, δ, R, rel, ⟨a, b, c, xs, n, ys, hδ, hw⟩, k⟩ => by
    obtain ⟨o, hσ, rfl, h1, h2, h3, e1, e2, e3⟩ := rel.at hδ
    refine ⟨.ref a, hσ, a, _, 1, .ref c, rfl, rfl, SqL.of e1, rfl, B, G, δ, _, rel, hw, fun v H1 G1 o δ1 r1 s1 rel1 ok1 => ?_⟩
    obtain ⟨d, ⟨j, z, rfl, hδ1, hz, q⟩, bd⟩ := use_ok rel1 ok1 r1
    obtain ⟨o', hσ', e', h1', h2', h3', e1', e2', e3'⟩ := rel1.at hδ1
    exact ⟨c, _, j, .int z, rfl, bor_int bd, SqL.of e3', by rw [atI_map, hz]; rfl, k _ H1 G1 _ δ1 q s1 rel1 (Dn.int _)⟩
theorem je_klen {xl : Str} {pl : Pos} (hg : Gl X xl) (hm : X.mg xl = none) (hv : bootBuiltins xl = some (.builtin "len")) (h : PE X (.Name x px) (tVar i)) (hn : xl ≠ "__name__" := by decide) (hdb : (xl == ("__debug__" : Str)) = false := by decide)
    (he : starEach [.Subscript (.Name x px) (.Constant (.int 1) k1 p1) p2] X.env = (false, eval (.Subscript (.Name x px) (.Constant (.int 1) k1 p1) p2) X.env) :: starEach [] X.env := by rfl) :
    JE X (.Call (.Name xl pl) [.Subscript (.Name x px) (.Constant (.int 1) k1 p1) p2] [] pos) (wKlen i) :=
  pe_le (pe_callB call_len hg hm hv (pa_cons (pe_ix ix_list h pe_int (fun _ _ => rfl)) pa_nil he) hn hdb he rfl) fun pins s σ H Q I ⟨B, G, δ, R, rel, ⟨a, b, c, xs, n, ys, hδ, hw⟩, k⟩ => by
    obtain ⟨o, hσ, rfl, h1, h2, h3, e1, e2, e3⟩ := rel.at hδ
    exact ⟨.ref a, hσ, a, _, 1, .ref c, rfl, rfl, SqL.of e1, rfl, _, _, rfl, .inl ⟨_, SqL.of e3, by simp⟩, k _ H G _ δ hw (Same.refl _) rel (Dn.int _)⟩
theorem dp_ints {K : PySem.W.Frag} {H : Hp} {a : Addr} {xs : List Int} (h : H a = some (.lst (xs.map V.int))) : Dp K H (.ref a) (.list (xs.map PyData.int)) :=
  .lst (SqL.of h) (by
    induction xs with
    | nil => exact .nil
    | cons x xs ih => exact .cons (.int _) (by
        clear h
        clear ih
        induction xs with
        | nil => exact .nil
        | cons x xs ih => exact .cons (.int _) ih))
theorem canLay_ints : ∀ xs : List Int, PyData.canLayAll0 (xs.map PyData.int) = true
  | [] => by simp [PyData.canLayAll0]
  | x :: xs => by simp [PyData.canLayAll0, PyData.canLay0, canLay_ints xs]
theorem depth_ints : ∀ xs : List Int, PyData.depthAll (xs.map PyData.int) = 0
  | [] => by simp [PyData.depthAll]
  | x :: xs => by simp [PyData.depthAll, PyData.depth, depth_ints xs]
theorem shaped_ints (xs : List Int) : SeqAt.shaped (.list (xs.map PyData.int)) = true := by
  simp [SeqAt.shaped, PyData.canLay0, PyData.depth, canLay_ints, depth_ints]
theorem eqv_nil (xs : List Int) : PyData.eqv (.list (xs.map PyData.int)) (.list []) = xs.isEmpty := by
  cases xs <;> simp [PyData.eqv, PyData.eqvAll]
theorem jt_kne (hu : X.A.units + 64 < cLine) (h : PE X (.Name x px) (tVar i)) (hm : behindInMarks .NotEq (.List [] p3) = false := by rfl) : JT X (.Compare (.Subscript (.Name x px) (.Constant (.int 0) k1 p1) p2) [.NotEq] [.List [] p3] pos) (wKne i) :=
  pt_le (pt_cmpR (op_neD hu) (pe_ix ix_list h pe_int (fun _ _ => rfl)) (pe_lst pa_nil) hm) fun pins s σ H Q I ⟨B, G, δ, R, rel, ⟨a, b, c, xs, n, ys, hδ, hw⟩, k⟩ => by
    obtain ⟨o, hσ, rfl, h1, h2, h3, e1, e2, e3⟩ := rel.at hδ
    refine ⟨.ref a, hσ, a, _, 0, .ref b, rfl, rfl, SqL.of e1, rfl, Nat.zero_le _, fun p np => ?_⟩
    have hb : (upd H p (.lst [])) b = some (.lst (xs.map V.int)) := by rw [upd_ne (ne_of_none e2 np)]; exact e2
    refine ⟨_, .list [], dp_ints hb, .lst (SqL.of upd_same) .nil, shaped_ints xs, by decide, _, rfl, ?_⟩
    rw [eqv_nil]
    exact k _ _ G δ hw (Same.refl _) (rel.grow np)
theorem js_put00 {e : Expr} {w : DE} {pt : Pos} (h : PE X (.Name x px) (tVar i)) (he : JE X e w) (hs : swapsWithSole [.Subscript (.Subscript (.Name x px) (.Constant (.int 0) k1 p1) p2) (.Constant (.int 0) k2 p3) pt] e pos.line X.env = pure false := by rfl) (hw : swappedStores [.Subscript (.Subscript (.Name x px) (.Constant (.int 0) k1 p1) p2) (.Constant (.int 0) k2 p3) pt] e X.env = pure none := by rfl) :
    JS X (.Assign [.Subscript (.Subscript (.Name x px) (.Constant (.int 0) k1 p1) p2) (.Constant (.int 0) k2 p3) pt] e pos) (wPut00 i w) :=
  ps_le (ps_asg he (pg_sub (pe_ix ix_list h pe_int (fun _ _ => rfl)) pe_int set_list) hs hw) fun pins s σ H D I ⟨B, G, δ, E, rel, hw, k⟩ => ⟨B, G, δ, _, rel, hw, fun v H1 G1 o δ1 r1 s1 rel1 ok1 => by
    obtain ⟨d, ⟨j, a, b, c, x, xs, n, ys, rfl, hδ1, q⟩, bd⟩ := use_ok rel1 ok1 r1
    obtain ⟨o', hσ, rfl, h1, h2, h3, e1, e2, e3⟩ := rel1.at hδ1
    obtain rfl := bor_int bd
    refine ⟨.ref a, hσ, a, _, 0, .ref b, rfl, rfl, SqL.of e1, rfl, b, _, 0, 0, rfl, rfl, e2, by simp [ixN], ?_⟩
    exact k.nx _ _ G1 _ q s1 (rel1.put hδ1 hσ (by simp [Cell.fp]) rfl ⟨rfl, h1, h2, h3, by rw [upd_ne h1]; exact e1, by rw [upd_same]; rfl, by rw [upd_ne h3.symm]; exact e3⟩)⟩
theorem js_put2 {e : Expr} {w : DE} {pt : Pos} (h : PE X (.Name x px) (tVar i)) (he : JE X e w) (hs : swapsWithSole [.Subscript (.Name x px) (.Constant (.int 2) k1 p1) pt] e pos.line X.env = pure false := by rfl) (hw : swappedStores [.Subscript (.Name x px) (.Constant (.int 2) k1 p1) pt] e X.env = pure none := by rfl) :
    JS X (.Assign [.Subscript (.Name x px) (.Constant (.int 2) k1 p1) pt] e pos) (wPut2 i w) :=
  ps_le (ps_asg he (pg_sub h pe_int set_list) hs hw) fun pins s σ H D I ⟨B, G, δ, E, rel, hw, k⟩ => ⟨B, G, δ, _, rel, hw, fun v H1 G1 o δ1 r1 s1 rel1 ok1 => by
    obtain ⟨d, ⟨j, a, b, c, xs, n, ys, rfl, hδ1, q⟩, bd⟩ := use_ok rel1 ok1 r1
    obtain ⟨o', hσ, rfl, h1, h2, h3, e1, e2, e3⟩ := rel1.at hδ1
    obtain rfl := bor_int bd
    refine ⟨.ref a, hσ, a, _, 2, 2, rfl, rfl, e1, by simp [ixN], ?_⟩
    exact k.nx _ _ G1 _ q s1 (rel1.put hδ1 hσ (by simp [Cell.fp]) rfl ⟨rfl, h1, h2, h3, by rw [upd_same]; rfl, by rw [upd_ne h1.symm]; exact e2, by rw [upd_ne h2.symm]; exact e3⟩)⟩
theorem js_pop0 {apos cpos : Pos} (h : PE X (.Name x px) (tVar i)) (hs : swapsWith (.Call (.Attribute (.Subscript (.Name x px) (.Constant (.int 0) k1 p1) p2) "pop" apos) [.Constant (.int 0) k2 p3] [] cpos) none pos.line X.env = pure false := by rfl)
    (hb : PE X (.Call (.Attribute (.Subscript (.Name x px) (.Constant (.int 0) k1 p1) p2) "pop" apos) [.Constant (.int 0) k2 p3] [] cpos) (tBM X.K "list" rPopAt (tOp (rIxL X.K) (tVar i) (tC (.int 0))) (tCons (tC (.int 0)) tNil))) :
    JS X (.Expr (.Call (.Attribute (.Subscript (.Name x px) (.Constant (.int 0) k1 p1) p2) "pop" apos) [.Constant (.int 0) k2 p3] [] cpos) pos) (wPop0 i) :=
  ps_le (ps_expr hb hs) fun pins s σ H D I ⟨B, G, δ, E, rel, ⟨a, b, c, x, xs, n, ys, hδ, hw⟩, k⟩ => by
    obtain ⟨o', hσ, rfl, h1, h2, h3, e1, e2, e3⟩ := rel.at hδ
    refine ⟨.ref a, hσ, a, _, 0, .ref b, rfl, rfl, SqL.of e1, rfl, .inl ⟨rfl, _, SqL.of e2⟩, b, _, 0, 0, .int x, rfl, rfl, e2, by decide, by decide, by simp [seqIndex?], rfl, ?_⟩
    exact k.nx _ _ G _ hw (Same.refl _) (rel.put hδ hσ (by simp [Cell.fp]) rfl ⟨rfl, h1, h2, h3, by rw [upd_ne h1]; exact e1, by rw [upd_same]; rfl, by rw [upd_ne h3.symm]; exact e3⟩)
end
end DL
set_option Elab.async false
set_option linter.all false
set_option maxRecDepth 100000
set_option maxHeartbeats 4000000
namespace DL
open PySem PySem.Spec PyProof.Rows L2
variable [Tb]

theorem ixN_nn {n : Nat} {j : Int} (h0 : 0 ≤ j) (h1 : j < n) : ixN n j = some j.toNat := by
  unfold ixN
  simp [h0, h1]
theorem atI_nn {α : Type} {xs : List α} {j : Int} (h0 : 0 ≤ j) (h1 : j < xs.length) : atI xs j = xs[j.toNat]? := by
  unfold atI; rw [ixN_nn h0 h1]; rfl
theorem atI_ex {α : Type} {xs : List α} {j : Int} (h0 : 0 ≤ j) (h1 : j < xs.length) : ∃ z, z ∈ xs ∧ atI xs j = some z := by
  rw [atI_nn h0 h1]
  have h : j.toNat < xs.length := by omega
  exact ⟨xs[j.toNat], List.getElem_mem h, List.getElem?_eq_getElem h⟩
omit [Tb] in
@[simp] theorem atI_ofNat {α : Type} (xs : List α) (j : Nat) : atI xs (j : Int) = xs[j]? := by
  by_cases h : j < xs.length
  · rw [atI_nn (by omega) (by omega)]; simp
  · unfold atI
    have : ixN xs.length (j : Int) = none := by unfold ixN; simp; omega
    rw [this, List.getElem?_eq_none (by omega)]; rfl

omit [Tb] in
@[simp] theorem atI_0 {α : Type} (xs : List α) : atI xs 0 = xs[0]? := by
  have := atI_ofNat xs 0; simpa using this
omit [Tb] in
@[simp] theorem atI_1 {α : Type} (xs : List α) : atI xs 1 = xs[1]? := by
  have := atI_ofNat xs 1; simpa using this
omit [Tb] in
@[simp] theorem atI_lit {α : Type} (xs : List α) (n : Nat) : atI xs (no_index (OfNat.ofNat n : Int)) = xs[n]? := atI_ofNat xs n
omit [Tb] in
@[simp] theorem atI_m1 {α : Type} (xs : List α) : atI xs (-1) = xs.getLast? := by
  rw [List.getLast?_eq_getElem?]
  cases xs with
  | nil => rfl
  | cons x xs =>
    unfold atI ixN
    have h1 : ¬ (0 : Int) ≤ -1 := by omega
    have h2 : -(((x :: xs).length : Nat) : Int) ≤ -1 := by simp; omega
    rw [if_neg h1, if_pos h2]
    have : (-1 + (((x :: xs).length : Nat) : Int)).toNat = (x :: xs).length - 1 := by simp; omega
    rw [this]; rfl
/-- a number that isn't negative and below -/
def spDraw : DSp := fun cs R => ∃ a b c m, cs = [.dk a b c, .d (.int m)] ∧ 0 < m ∧ m.natAbs.log2 < 9000 ∧ ∀ r, 0 ≤ r → r < m → R (.int r) [.dk a b c, .d (.int m)]
def wDrawA : DTS := wSeq (wSet 2 (mE (wK00 0))) (wSeq (wPut00 0 (wOp pDiv (wVar 2) (wVar 1))) (wSeq (wIf (wB (wOp pEq (wK00 0) (wC (.int 0)))) (wPop0 0) wNext) (wRet (wOp pMod (wFn pInt (wCons (wVar 2) wNil)) (wVar 1)))))
def wDrawB : DTS := wSeq (wPut2 0 (wOp pAdd (wK2 0) (wC (.int 1)))) (wSeq (wSet 3 (mE (wK1 0 (wOp pMod (wFn pInt (wCons (wK2 0) wNil)) (wKlen 0)))))
  (wSeq (wSet 4 (mE (wOp pMod (wFn pInt (wCons (wOp pAdd (wOp pMod (wFn pInt (wCons (wVar 3) wNil)) (wC (.int 4294966477))) (wOp pMul (wC (.int 1640531513)) (wK2 0))) wNil)) (wC (.int 4294966477)))))
  (wSeq (wSet 4 (mE (wOp pMod (wFn pInt (wCons (wOp pAdd (wOp pMul (wVar 4) (wVar 4)) (wOp pMul (wC (.int 86028121)) (wK2 0))) wNil)) (wC (.int 4294966427)))))
  (wRet (wOp pMod (wOp pDiv (wOp pMod (wFn pInt (wCons (wOp pMul (wVar 4) (wVar 4)) wNil)) (wC (.int 4294966373))) (wC (.int 1024))) (wVar 1))))))
def wDraw : DTS := wSeq (wIf (wKne 0) wDrawA wNext) wDrawB
theorem cm_small {i j : Int} (h0 : 0 ≤ i) (h1 : i < 4294967296) : CMul i j ∨ CMulW i j := .inl (.inl ⟨by omega, by omega⟩)
theorem rd_draw {a b c : Addr} {m : Int} {xs ys : List Int} {n : Int} {E : DEnds} (hm : 0 < m) (hl : m.natAbs.log2 < 9000) (hy : ys ≠ []) (hx : ∀ x ∈ xs, 0 ≤ x)
    (k : ∀ r xs n d2 d3 d4, 0 ≤ r → r < m → (∀ x ∈ xs, (0 : Int) ≤ x) → E.rt (.int r) [.dx a b c xs n ys, .d (.int m), d2, d3, d4]) : wDraw E [.dx a b c xs n ys, .d (.int m), .em, .em, .em] := by
  unfold wDraw
  cases xs with
  | nil =>
    have hpos : 0 < ys.length := List.length_pos_iff.mpr hy
    obtain ⟨z, _, hz⟩ := atI_ex (xs := ys) (j := (n + 1) % (ys.length : Int)) (Int.emod_nonneg _ (by omega)) (Int.emod_lt_of_pos _ (by omega))
    simp [wDrawB]
    rw [hz]
    simp
    refine ⟨hpos, cm_small (by omega) (by omega), cm_small (by omega) (by omega), cm_small (by omega) (by omega), cm_small (by omega) (by omega), by decide, hm, k _ _ _ _ _ _ (Int.emod_nonneg _ (by omega)) (Int.emod_lt_of_pos _ hm) (by simp)⟩
  | cons x xs =>
    have h0 : 0 ≤ x := hx x (by simp)
    simp [wDrawA]
    refine ⟨⟨hm, hl⟩, ?_⟩
    split
    · exact ⟨hm, k _ _ _ _ _ _ (Int.emod_nonneg _ (by omega)) (Int.emod_lt_of_pos _ hm) fun y hy => hx y (by simp [hy])⟩
    · refine ⟨hm, k _ _ _ _ _ _ (Int.emod_nonneg _ (by omega)) (Int.emod_lt_of_pos _ hm) fun y hy => ?_⟩
      rcases List.mem_cons.mp hy with e | hy
      · rw [e]; exact Int.ediv_nonneg h0 (by omega)
      · exact hx y (by simp [hy])
theorem ok_draw {P : Program} {w : World} {K : PySem.W.Frag} {mg : Str → Option Value} {base : Heap} {x qual : Str} {st : Stmt} {f : Addr} {fd : FuncData} {N ps : List Str} {k : Nat} (F : Fun K x qual st f fd) (S : FnScope N ps (defScope st)) (hN : N.length = 5) (hp : ps.length = 2)
    (body : ∀ (cdv : Value) (A : Around) (outer : List Env) (s : Shared) (H : Hp) (E : XK), RoomG k (A.deeper (envOfC qual (defScope st) s.heap.objs.size f cdv)) → JSs (cxOf CX0 P w K mg base N qual (defScope st) f cdv A outer s H E).nox (defBody st) wDraw) : FnG P w K mg base CX0 (k + 1) f fd ps (liftSp K spDraw) := by
  obtain ⟨oc, od, kV, doc, pm, an, cdv, ct, osl, rfl, lk', hcd⟩ := F.ex
  refine fnG_of lk' hcd S (fun vs H Q E ⟨B, G, cs, R, rel, ⟨a, b, c, m, e, _⟩, _⟩ => by have := rel.len; subst e; simp at this; omega) fun A outer s H vs Q E hr ⟨B, G, cs, R, rel, ⟨a, b, c, m, e, hm, hl, hR⟩, kk⟩ => ?_
  subst e
  have e0 : start0 N.length [Cell.dk a b c, .d (.int m)] = [.dk a b c, .d (.int m), .em, .em, .em] := by rw [hN]; rfl
  have rel0 : Rel K B G [.dk a b c, .d (.int m), .em, .em, .em] (L2.start N vs) H := e0 ▸ rel_start rel
  obtain ⟨o, hσ, rfl, h1, h2, h3, n, xs, ys, e1, e2, e3, hy, hx⟩ := rel0.at (i := 0) rfl
  have rel1 := rel0.swap (i := 0) (c' := .dx a b c xs n ys) rfl hσ rfl ⟨rfl, h1, h2, h3, e1, e2, e3⟩
  refine ⟨_, (body cdv A outer s H E hr).nox, B, G, _, { nx := fun _ => False, rt := fun z δ => ∃ r xs n d2 d3 d4, z = .int r ∧ 0 ≤ r ∧ r < m ∧ (∀ x ∈ xs, (0 : Int) ≤ x) ∧ δ = [.dx a b c xs n ys, .d (.int m), d2, d3, d4] }, rel1, ?_, ?_⟩
  · exact rd_draw hm hl hy hx fun r xs n d2 d3 d4 q0 q1 q2 => ⟨r, xs, n, d2, d3, d4, rfl, q0, q1, q2, rfl⟩
  · refine ⟨fun _ _ _ _ h => h.elim, ?_, fun _ _ _ _ h => h.elim, fun _ _ _ _ h => h.elim⟩
    rintro v σ' H' G' z δ' ⟨r, xs', n', d2, d3, d4, rfl, q0, q1, q2, rfl⟩ sG rel' dn
    obtain ⟨o', hσ', rfl, h1', h2', h3', e1', e2', e3'⟩ := rel'.at (i := 0) rfl
    have rel2 := rel'.swap (i := 0) (c' := .dk a b c) rfl hσ' rfl ⟨rfl, h1', h2', h3', n', xs', ys, e1', e2', e3', hy, q2⟩
    exact kk v H' G' (.int r) _ (hR r q0 q1) sG (rel_end rel rel2 sG ⟨rfl, trivial⟩) dn
end DL
set_option Elab.async false
set_option linter.all false
set_option maxRecDepth 100000
set_option maxHeartbeats 4000000
namespace DL
open PySem PySem.Spec PyProof.Rows L2
variable [Tb]

theorem roomG_caller {k : Nat} (h : Room k callerA) : RoomG k callerA := ⟨h, rfl⟩
/-- what is tracked when the law begins: the script, if it isn't one of the module's own things -/
noncomputable def scrH (K : PySem.W.Frag) (a : Addr) (vs : List Value) (ns : List Int) : Hp := by
  classical
  exact fun b => if b = a ∧ K.lookup a = none then some (.frz { cls := .type "list", data := .seq vs.toArray } (.lst (ns.map V.int))) else none
section
variable {K : PySem.W.Frag} {a b : Addr} {vs : List Value} {ns : List Int}
theorem scrH_some {u : HO} (h : scrH K a vs ns b = some u) : b = a ∧ K.lookup a = none ∧ u = .frz { cls := .type "list", data := .seq vs.toArray } (.lst (ns.map V.int)) := by
  unfold scrH at h
  split at h
  · rename_i c; exact ⟨c.1, c.2, (Option.some.inj h).symm⟩
  · cases h
theorem scrH_at (h : K.lookup a = none) : scrH K a vs ns a = some (.frz { cls := .type "list", data := .seq vs.toArray } (.lst (ns.map V.int))) := by
  unfold scrH; exact if_pos ⟨rfl, h⟩
end
/-- how the modules stand when the law is called -/
structure Began (K : PySem.W.Frag) (mg : Str → Option Value) (h : Heap) : Prop where
  code : K.In h
  own : h.Ns mainGlobals mg
  given : ∃ mb, h.Ns builtinsNs mb ∧ ∀ x : Str, x ≠ "__name__" → mb x = bootBuiltins x
  free : h.NoLimit
/-- the script lies at a -/
structure Script (h : Heap) (a : Addr) (vs : List Value) (ns : List Int) : Prop where
  at_a : h.get? a = some { cls := .type "list", data := .seq vs.toArray }
  nums : IntsAre vs ns
  fits : ns.length ≤ sizeLine
/-- the law over data: from the script, True -/
def spLaw : DSp := fun cs R => ∃ a ns, cs = [.scr a ns] ∧ ∀ cs', R (.bool true) cs'
/-- what is tracked at the start, but for tables -/
noncomputable def noTb (H : Hp) : Hp := by
  classical
  exact fun a => if ∃ ps, H a = some (.tbl ps) then none else H a
theorem noTb_some {H : Hp} {a : Addr} {o : HO} (h : noTb H a = some o) : H a = some o ∧ ∀ ps, o ≠ .tbl ps := by
  unfold noTb at h
  split at h
  · cases h
  · rename_i n
    exact ⟨h, fun ps e => n ⟨ps, by rw [h, e]⟩⟩
theorem noTb_at {H : Hp} {a : Addr} {o : HO} (h : H a = some o) (n : ∀ ps, o ≠ .tbl ps) : noTb H a = some o := by
  unfold noTb
  rw [if_neg fun ⟨ps, e⟩ => n ps (by rw [h] at e; cases e; rfl)]
  exact h
theorem noTb_seq {K : PySem.W.Frag} {H : Hp} {a : Addr} {xs : List V} (h : SqL K H a xs) : SqL K (noTb H) a xs := by
  rcases h with (h | ⟨o, h⟩) | h
  · exact .inl (.inl (noTb_at h fun _ z => (nomatch z)))
  · exact .inl (.inr ⟨o, noTb_at h fun _ z => (nomatch z)⟩)
  · exact .inr h
theorem law_start {K : PySem.W.Frag} {H : Hp} {a : Addr} {ns : List Int} (h : SqL K H a (ns.map V.int)) (hT : LamX.Tabs Tb.T H := by intro p hp; cases hp) : liftSp K spLaw [.ref a] H (fun v _ => v = .bl true) fun _ _ _ => False := by
  refine ⟨fun _ => none, noTb H, [.scr a ns], fun x _ => x = .bool true, ?_, ⟨a, ns, rfl, fun _ => rfl⟩, ?_⟩
  · refine ⟨rfl, fun a o e => (noTb_some e).1, fun a o e => (by cases e), fun a => .inr rfl, fun i c o e1 e2 => ?_, fun i j c c' a e1 e2 m1 m2 => ?_, fun i c a e m => ?_, ⟨hT, ⟨fun a o e => (by cases e), fun a o e => (noTb_some e).2⟩⟩⟩
    · cases i with
      | zero => simp at e1 e2; subst e1 e2; exact ⟨rfl, noTb_seq h⟩
      | succ i => simp at e1
    · cases i with
      | zero => simp at e1; subst e1; cases m1
      | succ i => simp at e1
    · cases i with
      | zero => simp at e; subst e; cases m
      | succ i => simp at e
  · rintro v H' G' x cs' rfl _ _ dn
    exact dn_bool dn
end DL
set_option Elab.async false
set_option linter.all false
set_option maxRecDepth 100000
set_option maxHeartbeats 4000000
namespace DL
open PySem PySem.Spec PyProof.Rows L2
variable [Tb]

section
variable {X : Cx} {x : Str} {pos : Pos} {e : Expr} {es : List Expr}
theorem jpv (i : Nat) (hN : X.N[i]? = some x := by rfl) (hv : Vis X.env.scope x := by first | exact .inl rfl | exact .inr (.inl rfl) | exact .inr (.inr rfl)) (hd : (x == ("__debug__" : Str)) = false := by decide) (hcd : (x == ("__classdict__" : Str)) = false := by decide) : PE X (.Name x pos) (tVar i) := pe_var hN hv hd hcd
theorem jv (i : Nat) (hN : X.N[i]? = some x := by rfl) (hv : Vis X.env.scope x := by first | exact .inl rfl | exact .inr (.inl rfl) | exact .inr (.inr rfl)) (hd : (x == ("__debug__" : Str)) = false := by decide) (hcd : (x == ("__classdict__" : Str)) = false := by decide) : JE X (.Name x pos) (wVar i) := je_var (pe_var hN hv hd hcd)
theorem jgn (i : Nat) (nd : X.N.Nodup) (hN : X.N[i]? = some x := by rfl) (hx : Loc X.env.scope x := by first | exact .inl rfl | exact .inr rfl) (hf : X.fn x = true ∨ X.env.scope.names.lookup x = some .local := by first | exact .inl rfl | exact .inr rfl) : JG X (.Name x pos) [i] (gN i) := jg_name nd hN hx hf
theorem jset (i : Nat) {w : DM} {pos' : Pos} (nd : X.N.Nodup) (he : JM X e w) (hi : X.N[i]? = some x := by rfl) (hx : Loc X.env.scope x := by first | exact .inl rfl | exact .inr rfl) (hs : swapsWith e (some (.Name x pos')) pos.line X.env = pure false := by rfl) (hf : X.fn x = true ∨ X.env.scope.names.lookup x = some .local := by first | exact .inl rfl | exact .inr rfl) :
    JS X (.Assign [.Name x pos'] e pos) (wSet i w) := js_set nd hi hx he hs hf
theorem jaug (i : Nat) {w : DE} {op : Operator} {p : P2} {pos' : Pos} (nd : X.N.Nodup) (he : JE X e w) (ho : OpD X (inplaceOp op) p) (hi : X.N[i]? = some x := by rfl) (hx : Loc X.env.scope x := by first | exact .inl rfl | exact .inr rfl) (hf : X.fn x = true ∨ X.env.scope.names.lookup x = some .local := by first | exact .inl rfl | exact .inr rfl) :
    JS X (.AugAssign (.Name x pos') op e pos) (wAug i p w) := js_aug nd hi hx he ho hf
theorem jpar {i j : Nat} {x y : Str} {a b : Expr} {w : DMs} {px py pt : Pos} {kt k2 pt2} (hc : X.calm = true) (hN : X.N.Nodup) (hi : X.N[i]? = some x) (hj : X.N[j]? = some y) (hij : i ≠ j) (ha : JMs X [a, b] w) (hx : X.env.scope.names.lookup x = some .local := by rfl) (hy : X.env.scope.names.lookup y = some .local := by rfl) 
    (hw : swappedStores [.Tuple [.Name x px, .Name y py] kt pt] (.Tuple [a, b] k2 pt2) X.env = pure (some [x, y]) := by rfl) (hs : swapsWithSole [.Tuple [.Name x px, .Name y py] kt pt] (.Tuple [a, b] k2 pt2) pos.line X.env = pure false := by rfl) :
    JS X (.Assign [.Tuple [.Name x px, .Name y py] kt pt] (.Tuple [a, b] k2 pt2) pos) (wPar2 i j w) := js_par2 hc hN hi hj hij hx hy ha hw hs
def pIAdd : P2 := fun x y R => match x, y with
  | .int i, .int j => R (.int (i + j))
  | .str a, .str b => a.length + b.length ≤ 1000000 ∧ R (.str (a ++ b))
  | _, _ => False
def pISub : P2 := ints2 fun i j R => R (.int (i - j))
def pIMul : P2 := ints2 fun i j R => CMul i j ∧ R (.int (i * j))
def pIDiv : P2 := ints2 fun i j R => CDiv i j ∧ R (.int (i / j))
def pIMod : P2 := ints2 fun i j R => 0 < j ∧ R (.int (i % j))
omit [Tb] in
@[simp] theorem pIAdd_ii (i j : Int) (R : PyData → Prop) : pIAdd (.int i) (.int j) R = R (.int (i + j)) := rfl
omit [Tb] in
@[simp] theorem pIAdd_ss (a b : Str) (R : PyData → Prop) : pIAdd (.str a) (.str b) R = (a.length + b.length ≤ 1000000 ∧ R (.str (a ++ b))) := rfl
omit [Tb] in
@[simp] theorem pISub_ii (i j : Int) (R : PyData → Prop) : pISub (.int i) (.int j) R = R (.int (i - j)) := rfl
omit [Tb] in
@[simp] theorem pIMul_ii (i j : Int) (R : PyData → Prop) : pIMul (.int i) (.int j) R = (CMul i j ∧ R (.int (i * j))) := rfl
omit [Tb] in
@[simp] theorem pIDiv_ii (i j : Int) (R : PyData → Prop) : pIDiv (.int i) (.int j) R = (CDiv i j ∧ R (.int (i / j))) := rfl
omit [Tb] in
@[simp] theorem pIMod_ii (i j : Int) (R : PyData → Prop) : pIMod (.int i) (.int j) R = (0 < j ∧ R (.int (i % j))) := rfl
theorem d_iadd : OpD X (inplaceOp .Add) pIAdd := by
  intro pins s σ H x y v u Q I rx ry ⟨B, G, δ, σ', dx, dy, R, rel, bx, by', q, k⟩
  cases dx <;> cases dy <;> first | exact False.elim q | skip
  · exact iop_add pins s σ H x y v u Q I rx ry ⟨_, _, bor_int bx, bor_int by', k _ H G _ q (Same.refl _) rel (Dn.int _)⟩
  · exact iop_add_str pins s σ H x y v u Q I rx ry ⟨_, _, bor_str bx, bor_str by', million q.1, k _ H G _ q.2 (Same.refl _) rel (Dn.str _)⟩
theorem d_isub : OpD X (inplaceOp .Sub) pISub := opd_ints0 iop_sub
end
end DL
set_option Elab.async false
set_option linter.all false
set_option maxRecDepth 100000
set_option maxHeartbeats 4000000
namespace DL
open PySem PySem.Spec PyProof.Rows L2
variable [Tb]

variable {g : DTG} {t : DT} {e : DE} {vs : List Nat} {xs : List PyData} {δ : DS}
theorem com_map {α : Type} {R : List PyData → DS → Prop} {u : Stop R} (as : List α) (d : α → PyData) (hx : xs = as.map d) (f : α → Option PyData)
    (hs : ∀ a ∈ as, ∀ (acc : List PyData) (K : List PyData → DS → Prop), K (acc ++ (f a).toList) δ → g (d a) δ fun δ1 => t δ1 fun b δ2 => if b = true then e δ2 fun o δ3 => lk o δ3 fun y δ4 => K (acc ++ [y]) (wipeD δ4 vs) else K acc (wipeD δ2 vs)) (k : R (as.filterMap f) δ) : comC g t e vs xs [] δ R u := by
  subst hx
  refine com_inv (fun ys acc δ' => δ' = δ ∧ ∃ bs : List α, ys = bs.map d ∧ (∀ x ∈ bs, x ∈ as) ∧ acc ++ bs.filterMap f = as.filterMap f) ⟨rfl, as, rfl, fun _ h => h, rfl⟩ ?_ ?_
  · rintro acc δ' ⟨rfl, bs, hb, _, h⟩
    have : bs = [] := by cases bs with
      | nil => rfl
      | cons => cases hb
    subst this
    have h' : acc = as.filterMap f := by simpa using h
    rw [h']; exact k
  · rintro x ys acc δ' ⟨rfl, bs, hb, hm, h⟩ K hK
    cases bs with
    | nil => cases hb
    | cons a bs =>
      simp only [List.map_cons, List.cons.injEq] at hb
      obtain ⟨rfl, rfl⟩ := hb
      refine hs a (hm a (List.mem_cons_self ..)) acc K (hK _ _ ⟨rfl, bs, rfl, fun y hy => hm y (List.mem_cons_of_mem _ hy), ?_⟩)
      rw [← h, List.filterMap_cons]
      cases f a <;> simp
theorem cutD_take {α : Type} (xs : List α) (n : Nat) : cutD xs none (some (n : Int)) = xs.take n := by
  unfold cutD
  rw [HT.sIx_none, HT.sIx_nat]
  simp only [List.drop_zero, Nat.sub_zero]
  by_cases h : n ≤ xs.length
  · rw [Nat.min_eq_left h]
  · rw [Nat.min_eq_right (by omega), List.take_of_length_le (by omega), List.take_of_length_le (by omega)]
theorem for_map {α : Type} {b : DTS} {E : DEnds} {u : Stop E} (as : List α) (d : α → PyData) (hx : xs = as.map d) (P : List α → DS → Prop) (Q : DS → Prop) (Z : PyData → DS → Prop) (h : P as δ) (h0 : ∀ δ, P [] δ → E.nx δ) (hq : ∀ δ, Q δ → E.nx δ) (hz : ∀ x δ, Z x δ → E.rt x δ)
    (hs : ∀ a bs δ, P (a :: bs) δ → ∀ (K B : DS → Prop) (T : PyData → DS → Prop), (∀ δ', P bs δ' → K δ') → (∀ δ', Q δ' → B δ') → (∀ x δ', Z x δ' → T x δ') → g (d a) δ fun δ1 => b { nx := K, rt := T, bk := B, ct := K } δ1) : forC g b xs δ E u := by
  subst hx
  refine for_inv (fun ys δ' => ∃ bs : List α, ys = bs.map d ∧ P bs δ') Q Z ⟨as, rfl, h⟩ ?_ hq hz ?_
  · rintro δ ⟨bs, hb, p⟩
    cases bs with
    | nil => exact h0 δ p
    | cons => cases hb
  · rintro x ys δ ⟨bs, hb, p⟩ K B T hK hB hT
    cases bs with
    | nil => cases hb
    | cons a bs =>
      simp only [List.map_cons, List.cons.injEq] at hb
      obtain ⟨rfl, rfl⟩ := hb
      exact hs a bs δ p K B T (fun δ' p' => hK δ' ⟨bs, rfl, p'⟩) hB hT
/-- a loop without break and return -/
theorem for_plain {α : Type} {b : DTS} {E : DEnds} {u : Stop E} (as : List α) (d : α → PyData) (hx : xs = as.map d) (P : List α → DS → Prop) (h : P as δ) (h0 : ∀ δ, P [] δ → E.nx δ)
    (hs : ∀ a bs δ, P (a :: bs) δ → ∀ (K B : DS → Prop) (T : PyData → DS → Prop), (∀ δ', P bs δ' → K δ') → g (d a) δ fun δ1 => b { nx := K, rt := T, bk := B, ct := K } δ1) : forC g b xs δ E u :=
  for_map as d hx P (fun _ => False) (fun _ _ => False) h h0 (fun _ h => h.elim) (fun _ _ h => h.elim) fun a bs δ p K B T hK _ _ => hs a bs δ p K B T hK
theorem nums_map (lo : Int) (n : Nat) : nums lo n = (List.range n).map fun (i : Nat) => PyData.int (lo + (i : Int)) := rfl
theorem nums_0 (n : Nat) : nums 0 n = (List.range n).map fun (i : Nat) => PyData.int (i : Int) := by simp [nums]
theorem log_lt {m : Int} {k : Nat} (h0 : 0 < m) (h1 : m < 2 ^ k) : m.natAbs.log2 < k := by
  have : m.natAbs < 2 ^ k := by
    have e : (m.natAbs : Int) = m := Int.natAbs_of_nonneg (by omega)
    have h2 : ((m.natAbs : Nat) : Int) < ((2 ^ k : Nat) : Int) := by rw [e]; simpa using h1
    exact Int.ofNat_lt.mp h2
  exact (Nat.log2_lt (by omega)).mpr this
theorem ask_of {sp : DSp} {cs : List Cell} {K : PyData → List Cell → Prop} {u : Stop K} (h : sp cs K) : ask sp cs K u := h
theorem cm_l {i j : Int} (h : -(2 ^ 64) < i ∧ i < 2 ^ 64) : CMul i j ∨ CMulW i j := .inl (.inl h)
theorem cm_r {i j : Int} (h : -(2 ^ 64) < j ∧ j < 2 ^ 64) : CMul i j ∨ CMulW i j := .inl (.inr h)
/-- a draw -/
theorem ask_draw {a b c : Addr} {m : Int} {K : PyData → List Cell → Prop} {u : Stop K} (h0 : 0 < m) (h1 : m < 2 ^ 64) (k : ∀ r, 0 ≤ r → r < m → K (.int r) [.dk a b c, .d (.int m)]) : ask spDraw [.dk a b c, .d (.int m)] K u :=
  ⟨a, b, c, m, rfl, h0, Nat.lt_trans (log_lt h0 h1) (by decide), k⟩
/-- the deck is made -/
theorem ask_deck {a : Addr} {ns : List Int} {K : Cell → List Cell → Prop} {u : Stop K} (k : ∀ p q r, K (.dk p q r) [.scr a ns]) : askM spDeck [.scr a ns] K u := ⟨a, ns, rfl, k⟩
end DL
set_option Elab.async false
set_option linter.all false
set_option maxRecDepth 100000
set_option maxHeartbeats 4000000
namespace DL
open PySem PySem.Spec PyProof.Rows L2
variable [Tb]

/-- ints of less than B bits, sequences of at most L items, n deep -/
def Sml (B L : Nat) : Nat → PyData → Prop
  | _, .none => True
  | _, .bool _ => True
  | _, .int i => i.natAbs.log2 < B
  | n + 1, .list xs => xs.length ≤ L ∧ ∀ x ∈ xs, Sml B L n x
  | n + 1, .tuple xs => xs.length ≤ L ∧ ∀ x ∈ xs, Sml B L n x
  | _, _ => False
theorem shownAll_map : ∀ xs : List PyData, PyData.shownAll xs = xs.map PyData.shown
  | [] => by simp [PyData.shownAll]
  | x :: xs => by simp [PyData.shownAll, shownAll_map xs]
omit [Tb] in
@[simp] theorem sml_int (B L n : Nat) (i : Int) : Sml B L n (.int i) = (i.natAbs.log2 < B) := by cases n <;> rfl
omit [Tb] in
@[simp] theorem sml_none (B L n : Nat) : Sml B L n .none = True := by cases n <;> rfl
omit [Tb] in
@[simp] theorem sml_bool (B L n : Nat) (b : Bool) : Sml B L n (.bool b) = True := by cases n <;> rfl
omit [Tb] in
@[simp] theorem sml_list (B L n : Nat) (xs : List PyData) : Sml B L (n + 1) (.list xs) = (xs.length ≤ L ∧ ∀ x ∈ xs, Sml B L n x) := rfl
omit [Tb] in
@[simp] theorem sml_tuple (B L n : Nat) (xs : List PyData) : Sml B L (n + 1) (.tuple xs) = (xs.length ≤ L ∧ ∀ x ∈ xs, Sml B L n x) := rfl
end DL
set_option Elab.async false
set_option linter.all false
set_option maxRecDepth 100000
set_option maxHeartbeats 4000000
namespace DL
open PySem PySem.Spec PyProof.Rows L2
variable [Tb]

def wPar3 (i j k : Nat) (w : DMs) : DTS := fun E δ => w δ fun cs δ1 => ∃ c d e, cs = [c, d, e] ∧ E.nx (((δ1.set i c).set j d).set k e)
omit [Tb] in
@[simp ↓] theorem wPar3_ap (i j k : Nat) (w : DMs) (E : DEnds) (δ : DS) : wPar3 i j k w E δ = (w δ fun cs δ1 => match cs with
  | [c, d, e] => E.nx (((δ1.set i c).set j d).set k e)
  | _ => False) := by
  unfold wPar3
  congr 1; funext cs δ1
  match cs with
  | [] => simp
  | [c] => simp
  | [c, d] => simp
  | [c, d, e] => exact propext ⟨fun ⟨c', d', e', h0, h⟩ => by cases h0; exact h, fun h => ⟨c, d, e, rfl, h⟩⟩
  | c :: d :: e :: f :: r => simp
def wAsgG (w : DE) (g : DTG) : DTS := fun E δ => w δ fun o δ1 => lk o δ1 fun x δ2 => g x δ2 E.nx
omit [Tb] in
@[simp ↓] theorem wAsgG_ap (w : DE) (g : DTG) (E : DEnds) (δ : DS) : wAsgG w g E δ = (w δ fun o δ1 => lk o δ1 fun x δ2 => g x δ2 E.nx) := rfl
section
variable {X : Cx} {pos : Pos} {e : Expr}
theorem jpar3 {i j l : Nat} {x y z : Str} {a b c : Expr} {w : DMs} {px py pz pt : Pos} {kt k2 pt2} (hc : X.calm = true) (hN : X.N.Nodup) (hi : X.N[i]? = some x) (hj : X.N[j]? = some y) (hk : X.N[l]? = some z) (hij : i ≠ j) (hik : i ≠ l) (hjk : j ≠ l) (ha : JMs X [a, b, c] w) (hx : X.env.scope.names.lookup x = some .local := by rfl) (hy : X.env.scope.names.lookup y = some .local := by rfl) (hz : X.env.scope.names.lookup z = some .local := by rfl)
    (hw : swappedStores [.Tuple [.Name x px, .Name y py, .Name z pz] kt pt] (.Tuple [a, b, c] k2 pt2) X.env = pure (some [x, y, z]) := by rfl) (hs : swapsWithSole [.Tuple [.Name x px, .Name y py, .Name z pz] kt pt] (.Tuple [a, b, c] k2 pt2) pos.line X.env = pure false := by rfl) :
    JS X (.Assign [.Tuple [.Name x px, .Name y py, .Name z pz] kt pt] (.Tuple [a, b, c] k2 pt2) pos) (wPar3 i j l w) := ps_le (ps_par3 hc hN hi hj hk hij hik hjk hx hy hz ha hw hs) fun pins s σ H D I ⟨B, G, δ, E, rel, hw, k⟩ => ⟨B, G, δ, _, rel, hw, fun vs H1 G1 cs δ1 r1 s1 rel1 hB ok1 => by
  obtain ⟨c, d, f, rfl, q⟩ := r1
  cases ok1 with
  | cons h1 d1 t1 =>
    cases t1 with
    | cons h2 d2 t2 =>
      cases t2 with
      | cons h3 d3 t3 =>
        cases t3
        rename_i v u w
        refine ⟨v, u, w, rfl, ?_⟩
        have e : fps [c, d, f] = c.fp ++ (d.fp ++ (f.fp ++ [])) := by simp [fps]
        rw [e] at rel1
        have R2 := Rel.store (i := i) rel1 (fun a m => hB a (by simp [fps, m])) (fun a m => by have := d1 a m; simpa [fps] using this) h1
        have R3 := Rel.store (i := j) R2 (fun a m => hB a (by simp [fps, m])) (fun a m => by have := d2 a m; simpa [fps] using this) h2
        have R4 := Rel.store (i := l) R3 (fun a m => hB a (by simp [fps, m])) (fun a m z => nomatch z) h3
        rw [bov_nil] at R4
        exact k.nx _ H1 G1 _ q s1 R4⟩
theorem js_asgG {tg : Expr} {w : DE} {ts : List Nat} {g : DTG} (he : JE X e w) (hg : JG X tg ts g) (hs : swapsWithSole [tg] e pos.line X.env = pure false := by rfl) (hw : swappedStores [tg] e X.env = pure none := by rfl) (h1 : (assignEach [tg] X.env).map (·.2) = [assign tg X.env] := by rfl) : JS X (.Assign [tg] e pos) (wAsgG w g) :=
  ps_le (ps_asg he hg hs hw h1) fun pins s σ H D I ⟨B, G, δ, E, rel, hw, k⟩ => ⟨B, G, δ, _, rel, hw, fun v H1 G1 o δ1 r1 s1 rel1 ok1 => by
    obtain ⟨G2, δ2, x, q, s2, rel2, dn⟩ := lk_ok rel1 ok1 r1
    exact ⟨B, G2, δ2, x, _, rel2, dn, q, fun σ' H' G' δ' r' s' rel' _ => k.nx _ _ _ _ r' (s1.trans (s2.trans s')) rel'⟩⟩
end
end DL
set_option Elab.async false
set_option linter.all false
set_option maxRecDepth 100000
set_option maxHeartbeats 4000000
namespace DL
open PySem PySem.Spec PyProof.Rows L2
variable [Tb]

/-- W m: what holds ahead of a turn, m falling; D: what holds when the loop is left; Z: what is returned from within -/
theorem while_inv {c : DT} {b : DTS} {δ : DS} {E : DEnds} {u : Stop E} (W : Nat → DS → Prop) (D : DS → Prop) (Z : PyData → DS → Prop) (m0 : Nat) (h : W m0 δ) (hd : ∀ δ, D δ → E.nx δ) (hz : ∀ x δ, Z x δ → E.rt x δ)
    (hs : ∀ m δ, W m δ → ∀ (K N : DS → Prop) (T : PyData → DS → Prop), (∀ m' δ', m' < m → W m' δ' → K δ') → (∀ δ', D δ' → N δ') → (∀ x δ', Z x δ' → T x δ') → c δ fun k δ1 => if k = true then b { nx := K, rt := T, bk := N, ct := K } δ1 else N δ1) : whileC c b δ E u :=
  ⟨W, ⟨m0, h⟩, fun m δ w => hs m δ w _ _ _ (fun m' δ' hm w' => ⟨m', hm, w'⟩) hd hz⟩
theorem while_plain {c : DT} {b : DTS} {δ : DS} {E : DEnds} {u : Stop E} (W : Nat → DS → Prop) (D : DS → Prop) (m0 : Nat) (h : W m0 δ) (hd : ∀ δ, D δ → E.nx δ)
    (hs : ∀ m δ, W m δ → ∀ (K N : DS → Prop) (T : PyData → DS → Prop), (∀ m' δ', m' < m → W m' δ' → K δ') → (∀ δ', D δ' → N δ') → c δ fun k δ1 => if k = true then b { nx := K, rt := T, bk := N, ct := K } δ1 else N δ1) : whileC c b δ E u :=
  while_inv W D (fun _ _ => False) m0 h hd (fun _ _ h => h.elim) fun m δ w K N T hK hN _ => hs m δ w K N T hK hN
theorem numbered_zip {α : Type} (d : α → PyData) : ∀ (as : List α) (n : Nat), numbered n (as.map d) = (as.zipIdx n).map fun p => .tuple [.int (p.2 : Nat), d p.1]
  | [], n => by simp [numbered]
  | a :: as, n => by simp [numbered, numbered_zip d as (n + 1)]
end DL
set_option Elab.async false
set_option linter.all false
set_option maxRecDepth 100000
set_option maxHeartbeats 4000000
namespace DL
open PySem PySem.Spec PyProof.Rows L2
variable [Tb]
section
variable {l : Addr} {its : Array Value} {n : Nat} {dd : Option Addr} {sl : Array (Option Value)} {x : Int} {u : Tok}
theorem fits63 (lo : -(2 ^ 63) ≤ x) (hi : x < 2 ^ 63) : (decide (x < -(2 ^ 63)) || decide (x ≥ 2 ^ 63)) = false := by simp; omega
/-- the tuple itself is handed back: an empty one, or once -/
theorem mul_same (lo : -(2 ^ 63) ≤ x) (hi : x < 2 ^ 63) (same : (its.isEmpty || x == 1) = true) :
    Meets (Builtin.«tuple.__mul__» ⟨[.ref l, .int x u], []⟩) (fun _ R s => s.heap.get? l = some { cls := .type "tuple", dict := dd, data := .seq its n, slots := sl } ∧ R (.ok (.ret (Value.ref l))) s) := by
  refine .of_wp fun prog w A R => ?_
  rintro ⟨hp, gs, dr, tk, os⟩ ⟨at_l, h⟩
  have fit := fits63 lo hi
  have ix := AutoSeq1.idx_int
  wp_walk using wpAny_loadPart' at_l
  all_goals simp only [fit, same, Bool.false_eq_true, ↓reduceIte]
  wp_walk using wpAny_loadPart' at_l
  all_goals (try simp only [fit, same, Bool.false_eq_true, ↓reduceIte])
  all_goals (first | (wp_walk using wpAny_loadPart' at_l; exact ⟨_, rfl, h⟩) | exact ⟨_, rfl, h⟩)
/-- no times at all: a new empty tuple -/
theorem mul_none (lo : -(2 ^ 63) ≤ x) (le : x ≤ 0) (some' : its.isEmpty = false) :
    Meets (Builtin.«tuple.__mul__» ⟨[.ref l, .int x u], []⟩) (fun _ R s => s.heap.get? l = some { cls := .type "tuple", dict := dd, data := .seq its n, slots := sl } ∧
      R (.ok (.ret (Value.ref s.heap.objs.size))) { s with heap := s.heap.push { cls := Value.type "tuple", data := Data.seq #[] }, toks := s.toks }) := by
  refine .of_wp fun prog w A R => ?_
  rintro ⟨hp, gs, dr, tk, os⟩ ⟨at_l, h⟩
  have fit := fits63 lo (Int.lt_of_le_of_lt le (by decide))
  have once : (x == 1) = false := by simp; omega
  have ix := AutoSeq1.idx_int
  wp_walk using wpAny_loadPart' at_l
  all_goals simp only [fit, once, some', Bool.or_false, Bool.false_eq_true, ↓reduceIte]
  wp_walk using wpAny_loadPart' at_l
  all_goals (try simp only [once, some', decide_eq_true le, Bool.or_false, Bool.false_eq_true, ↓reduceIte])
  all_goals (first | (wp_walk using wpAny_loadPart' at_l; exact ⟨_, rfl, h⟩) | exact ⟨_, rfl, h⟩)
end
omit [Tb] in
/-- what `t * k` asks of a tuple's own multiplication, and no more -/
theorem mul_asks {X : Cx} {s : Shared} {l : Addr} {its : Array Value} {n : Nat} {dd : Option Addr} {sl : Array (Option Value)} {k : Int} {t : Tok} {G E : Value → Shared → Prop}
    (at_l : s.heap.get? l = some { cls := .type "tuple", dict := dd, data := .seq its n, slots := sl }) {W : Shared → Value} {f : Shared → Shared}
    (own : Meets (Builtin.«tuple.__mul__» ⟨[.ref l, .int k t], []⟩) (fun _ R s => s.heap.get? l = some { cls := .type "tuple", dict := dd, data := .seq its n, slots := sl } ∧ R (.ok (.ret (W s))) (f s))) (h : G (W s) (f s)) :
    wpAny (model X.prog X.w) X.A (binaryOp .Mult (.ref l) (.int k t)) G E s := by
  have ty : s.TypeIs (.ref l) "tuple" := ⟨_, at_l, rfl⟩
  have back := int_rmul_tuple k t l its n dd sl
  exact wpAny_binaryOp_repeat_ref (by decide) ty (typeIs_int · k t) noFill_tuple_mul F.fills_int_mul F.slot_int_rmul repeat_tuple F.slot_int_index.lookup
    (call_meets F.slot_int_rmul (typeIs_int s k t) F.entry_int_rmul (F.args_int_rmul_2 _ _) back ⟨at_l, rfl, ty, call_meets F.slot_tuple_mul ty F.entry_tuple_mul (F.args_tuple_mul_2 _ _) own ⟨at_l, h⟩⟩)
/-- t * k -/
def rRepA (K : PySem.W.Frag) : R2 := fun x y H Q => ∃ l k xs, x = .ref l ∧ y = .int k ∧ SqT K H l xs ∧ -1000 ≤ k ∧ k ≤ 1000 ∧ xs.length ≤ 1000 ∧ (xs = [] ∨ k = 1 → Q (.ref l) H) ∧ (¬ (xs = [] ∨ k = 1) → ∀ p, H p = none → Q (.ref p) (upd H p (.tup (List.replicate k.toNat xs).flatten)))
section
variable {X : Cx}
theorem op_repA : OpR X (binaryOp .Mult) (rRepA X.K) := by
  rintro pins s σ H _ _ _ _ Q I rx ry ⟨l, k, xs, rfl, rfl, isT, lo, hi, short, once, else'⟩
  by_cases c : 2 ≤ k ∧ xs ≠ []
  · exact op_repT pins s σ H _ _ _ _ Q I rx ry ⟨l, k, xs, rfl, rfl, isT, c.2, c.1, hi, short, else' (fun z => z.elim c.2 (by omega))⟩
  cases rx
  obtain ⟨tok, rfl⟩ := ry
  obtain ⟨its, vals, ⟨⟨_, dd, _, sl⟩, at_l, rfl, n, rfl⟩, _⟩ := I.tuple isT
  by_cases c' : xs = [] ∨ k = 1
  · refine mul_asks at_l (mul_same (by omega) (by omega) ?_) ⟨.ref l, _, I, rfl, once c'⟩
    rcases c' with rfl | rfl
    · cases vals; rfl
    · exact Bool.or_true _
  · have le : k ≤ 0 := by
      have : ¬ k = 1 := fun e => c' (.inr e)
      have : ¬ 2 ≤ k := fun e => c ⟨e, fun z => c' (.inl z)⟩
      omega
    have q := else' c'
    rw [Int.toNat_of_nonpos le] at q
    refine mul_asks at_l (mul_none (by omega) le ?_) ⟨.ref s.heap.objs.size, _, I.laid (t' := s.toks) (o := .tup []) (fun _ _ e => Heap.get?_push_of_some _ e) (Nat.le_refl _) ⟨by decide +kernel, _, .nil, IsTup.new _ _⟩, rfl, q _ (I.hok.fresh (Nat.le_refl _))⟩
    cases vals with
    | nil => exact absurd (.inl rfl) c'
    | cons => rfl
def pMulT : P2 := fun x y R => match x, y with
  | .int i, .int j => (CMul i j ∨ CMulW i j) ∧ R (.int (i * j))
  | .list xs, .int k => 0 ≤ k ∧ xs.length * k.toNat ≤ 1000000 ∧ k < 1000000 ∧ R (.list (List.replicate k.toNat xs).flatten)
  | .tuple xs, .int k => (-1000 ≤ k ∧ k ≤ 1000 ∧ xs.length ≤ 1000) ∧ R (.tuple (List.replicate k.toNat xs).flatten)
  | _, _ => False
theorem d_mulT : OpD X (binaryOp .Mult) pMulT := by
  intro pins s σ H x y v u Q I rx ry ⟨B, G, δ, σ', dx, dy, R, rel, bx, by', q, k⟩
  cases dx <;> cases dy <;> first | exact False.elim q | skip
  · exact d_mul pins s σ H x y v u Q I rx ry ⟨B, G, δ, σ', _, _, R, rel, bx, by', q, k⟩
  · exact d_mul pins s σ H x y v u Q I rx ry ⟨B, G, δ, σ', _, _, R, rel, bx, by', q, k⟩
  · rename_i ds i
    obtain ⟨a, vs, rfl, ha, ta⟩ := bor_tupS bx
    obtain ⟨⟨q0, q1, q2⟩, q3⟩ := q
    refine op_repA pins s σ H _ _ v u Q I rx ry ⟨a, i, vs, rfl, bor_int by', sqT_mono rel.sg (SqT.of ha), q0, q1, by rw [ta.len]; exact q2, fun hc => ?_, fun hc p np => ?_⟩
    · refine k _ H G _ q3 (Same.refl _) rel ?_
      rcases hc with rfl | rfl
      · have : ds = [] := by have := ta.len; simp at this; exact List.eq_nil_of_length_eq_zero this.symm
        subst this
        rw [List.flatten_replicate_nil] <;> exact Dn.tup ha ta
      · have e : (List.replicate (1 : Int).toNat ds).flatten = ds := by simp
        rw [e]; exact Dn.tup ha ta
    · obtain ⟨rel3, s3⟩ := rel.laid (o := .tup _) np
      exact k _ _ _ _ q3 s3 rel3 (Dn.tup upd_same ((ta.rep _).mono s3))
omit [Tb] in
@[simp ↓] theorem pMulT_ii (i : Int) (j : Int) (R : PyData → Prop) : pMulT (.int i) (.int j) R = ((CMul i j ∨ CMulW i j) ∧ R (.int (i * j))) := rfl
omit [Tb] in
@[simp ↓] theorem pMulT_li (xs : List PyData) (k : Int) (R : PyData → Prop) : pMulT (.list xs) (.int k) R = (0 ≤ k ∧ xs.length * k.toNat ≤ 1000000 ∧ k < 1000000 ∧ R (.list (List.replicate k.toNat xs).flatten)) := rfl
omit [Tb] in
@[simp ↓] theorem pMulT_ti (xs : List PyData) (k : Int) (R : PyData → Prop) : pMulT (.tuple xs) (.int k) R = ((-1000 ≤ k ∧ k ≤ 1000 ∧ xs.length ≤ 1000) ∧ R (.tuple (List.replicate k.toNat xs).flatten)) := rfl
end
end DL
set_option Elab.async false
set_option linter.all false
set_option maxRecDepth 100000
set_option maxHeartbeats 4000000
namespace DL
open PySem PySem.Spec PyProof.Rows L2
variable [Tb]
mutual
/-- a value reads as data, and where a dict is read it is empty and not the table of modules -/
def RdN (h : Heap) (v : Value) : PyData → Prop
  | .dict kvs => kvs = [] ∧ ∃ a o es n, v = .ref a ∧ a ≠ sysModules ∧ h.get? a = some o ∧ o.cls = .type "dict" ∧ o.data = .dict es n ∧ es.toList = []
  | .list xs => ∃ a o vs n, v = .ref a ∧ h.get? a = some o ∧ o.cls = .type "list" ∧ o.data = .seq vs n ∧ RdNs h vs.toList xs
  | .tuple xs => ∃ a o vs n, v = .ref a ∧ h.get? a = some o ∧ o.cls = .type "tuple" ∧ o.data = .seq vs n ∧ RdNs h vs.toList xs
  | d => Reads h v d []
def RdNs (h : Heap) (vs : List Value) : List PyData → Prop
  | [] => vs = []
  | d :: ds => ∃ v us, vs = v :: us ∧ RdN h v d ∧ RdNs h us ds
end
mutual
theorem RdN.reads {h : Heap} : ∀ (d : PyData) {v : Value}, RdN h v d → ∃ as, Reads h v d as
  | .none, _, r => ⟨_, r⟩
  | .bool _, _, r => ⟨_, r⟩
  | .int _, _, r => ⟨_, r⟩
  | .str _, _, r => ⟨_, r⟩
  | .list xs, _, ⟨_, _, _, _, e, h1, h2, h3, h4⟩ => (RdNs.reads xs h4).elim fun _ q => e ▸ ⟨_, Reads.list h1 h2 h3 q⟩
  | .tuple xs, _, ⟨_, _, _, _, e, h1, h2, h3, h4⟩ => (RdNs.reads xs h4).elim fun _ q => e ▸ ⟨_, Reads.tuple h1 h2 h3 q⟩
  | .dict _, _, ⟨z, _, _, _, _, e, _, h1, h2, h3, h4⟩ => e ▸ z ▸ ⟨_, Reads.dict (kvs := []) (as := []) (bs := []) h1 h2 h3 (by rw [h4]; exact ReadsAll.nil) (by rw [h4]; exact ReadsAll.nil)⟩
theorem RdNs.reads {h : Heap} : ∀ (ds : List PyData) {vs : List Value}, RdNs h vs ds → ∃ as, ReadsAll h vs ds as
  | [], _, e => e ▸ ⟨_, ReadsAll.nil⟩
  | d :: ds, _, ⟨_, _, e, a, b⟩ => (RdN.reads d a).elim fun _ p => (RdNs.reads ds b).elim fun _ q => e ▸ ⟨_, ReadsAll.cons p q⟩
end
section
variable {prog : Program} {w : World} {h₀ : Heap}
/-- what is told of a value that reads: somewhere below it, its repr is its text -/
def Tells (prog : Program) (w : World) (h₀ : Heap) (v : Value) (d : PyData) : Prop :=
  (∃ as, Reads h₀ v d as) ∧ (d.showable = true → d.shown.length ≤ sizeLine → ∃ bs, ReadAtMost h₀ d.depth bs ∧ ReprK prog w bs h₀ d.depth v d.shown)
def TellsAll (prog : Program) (w : World) (h₀ : Heap) (vs : List Value) (ds : List PyData) : Prop :=
  (∃ as, ReadsAll h₀ vs ds as) ∧ (PyData.showableAll ds = true → (∀ t ∈ PyData.shownAll ds, t.length ≤ sizeLine) → ∃ bs, ReadAtMost h₀ (PyData.depthAll ds) bs ∧ ReprAllK prog w bs h₀ (PyData.depthAll ds) vs (PyData.shownAll ds))
/-- .. and, for a thing of the heap, by its class's own method -/
def Shows (prog : Program) (w : World) (h₀ : Heap) (v : Value) (d : PyData) : Prop :=
  d.showable = true → d.shown.length ≤ sizeLine → ∃ a T idr, v = .ref a ∧ ShowsBy prog w h₀ a d T idr
theorem TellsAll.none : TellsAll prog w h₀ [] [] := ⟨⟨_, .nil⟩, fun _ _ => ⟨[], nofun, .nil⟩⟩
theorem TellsAll.more {v : Value} {d : PyData} {vs : List Value} {ds : List PyData} (a : Tells prog w h₀ v d) (b : TellsAll prog w h₀ vs ds) : TellsAll prog w h₀ (v :: vs) (d :: ds) := by
  obtain ⟨⟨as, ra⟩, ka⟩ := a
  obtain ⟨⟨bs, rb⟩, kb⟩ := b
  refine ⟨⟨_, .cons ra rb⟩, fun sh short => ?_⟩
  rw [PyData.showableAll, Bool.and_eq_true] at sh
  rw [PyData.shownAll] at short ⊢
  obtain ⟨cs, below_c, one⟩ := ka sh.1 (short _ List.mem_cons_self)
  obtain ⟨ds', below_d, rest⟩ := kb sh.2 fun t m => short t (List.mem_cons_of_mem _ m)
  rw [PyData.depthAll]
  exact ⟨cs ++ ds', (below_c.mono (Nat.le_max_left _ _)).append (below_d.mono (Nat.le_max_right _ _)), .cons ((one.more fun _ => List.mem_append_left _).level_le (Nat.le_max_left _ _)) (rest.more_le (fun _ => List.mem_append_right _) (Nat.le_max_right _ _))⟩
theorem tells_tuple {a : Addr} {o : Obj} {vs : Array Value} {n : Nat} {xs : List PyData} (at_a : h₀.get? a = some o) (cl : o.cls = .type "tuple") (dt : o.data = .seq vs n) (all : TellsAll prog w h₀ vs.toList xs) :
    Tells prog w h₀ (.ref a) (.tuple xs) ∧ Shows prog w h₀ (.ref a) (.tuple xs) := by
  obtain ⟨⟨as, rs⟩, told⟩ := all
  have r : Reads h₀ (.ref a) (.tuple xs) as := .tuple at_a cl dt rs
  have go : (PyData.tuple xs).showable = true → (PyData.tuple xs).shown.length ≤ sizeLine → ∃ bs, ReadAtMost h₀ (PyData.depthAll xs) bs ∧ a ∉ bs ∧ ReprAllK prog w bs h₀ (PyData.depthAll xs) vs.toList (PyData.shownAll xs) := fun sh short => by
    rw [PyData.showable] at sh
    rw [PyData.shown] at short
    obtain ⟨bs, below, k⟩ := told sh fun t m => Nat.le_trans (tupleText_mem_le m) short
    exact ⟨bs, below, not_mem_of_deeper r (by rw [PyData.depth]; omega) below, k⟩
  refine ⟨⟨⟨_, r⟩, fun sh short => ?_⟩, fun sh short => ?_⟩ <;> obtain ⟨bs, below, out, k⟩ := go sh short
  · rw [PyData.depth, PyData.shown]
    exact ⟨a :: bs, ReadAtMost.cons r (by rw [PyData.depth]; omega) below, ReprK.tuple at_a cl dt out k⟩
  · refine ⟨a, "tuple", "tuple.__repr__", rfl, { slotRepr := F.slot_tuple_repr, slotStr := F.slot_tuple_str, slotFmt := F.slot_tuple_format, typeIs := fun s kept => ⟨o, kept _ _ at_a, cl⟩, call := ?_ }⟩
    intro A E s Q calm room kept done
    rw [PyData.depth] at room
    rw [PyData.shown] at done short
    exact call_tuple_reprK at_a cl dt out k calm (fun b _ => Clear.nil b) room kept done short
theorem tells_list {a : Addr} {o : Obj} {vs : Array Value} {n : Nat} {xs : List PyData} (at_a : h₀.get? a = some o) (cl : o.cls = .type "list") (dt : o.data = .seq vs n) (all : TellsAll prog w h₀ vs.toList xs) :
    Tells prog w h₀ (.ref a) (.list xs) ∧ Shows prog w h₀ (.ref a) (.list xs) := by
  obtain ⟨⟨as, rs⟩, told⟩ := all
  have r : Reads h₀ (.ref a) (.list xs) (a :: as) := .list at_a cl dt rs
  have go : (PyData.list xs).showable = true → (PyData.list xs).shown.length ≤ sizeLine → ∃ bs, ReadAtMost h₀ (PyData.depthAll xs) bs ∧ a ∉ bs ∧ ReprAllK prog w bs h₀ (PyData.depthAll xs) vs.toList (PyData.shownAll xs) := fun sh short => by
    rw [PyData.showable] at sh
    rw [PyData.shown] at short
    obtain ⟨bs, below, k⟩ := told sh fun t m => Nat.le_trans (listText_mem_le m) short
    exact ⟨bs, below, not_mem_of_deeper r (by rw [PyData.depth]; omega) below, k⟩
  have slots (call) : ShowsBy prog w h₀ a (.list xs) "list" "list.__repr__" := { slotRepr := F.slot_list_repr.toG, slotStr := F.slot_list_str, slotFmt := F.slot_list_format, typeIs := fun s kept => ⟨o, kept _ _ at_a, cl⟩, call := call }
  rcases vs with ⟨_ | ⟨v, us⟩⟩
  · cases rs
    refine ⟨⟨⟨_, r⟩, fun _ _ => ⟨[a], ReadAtMost.cons r (Nat.le_refl _) nofun, ?_⟩⟩, fun _ _ => ⟨a, _, _, rfl, slots ?_⟩⟩
    · rw [PyData.shown, PyData.shownAll, listText_nil]
      exact ReprK.listEmpty at_a cl dt
    · intro A E s Q calm room kept done
      rw [PyData.shown, PyData.shownAll, listText_nil] at done
      exact call_list_repr_empty ⟨o, kept _ _ at_a, cl⟩ (kept _ _ at_a) dt (done s.heap _ _ fun _ _ e => e)
  · have each : ∀ {bs : List Addr}, ReprAllK prog w bs h₀ (PyData.depthAll xs) (v :: us) (PyData.shownAll xs) → (PyData.shownAll xs).length = (v :: us).toArray.size ∧ ∀ (i : Nat) (y : Value), (v :: us).toArray[i]? = some y → ∃ t, (PyData.shownAll xs)[i]? = some t ∧ ReprK prog w bs h₀ (PyData.depthAll xs) y t :=
      fun k => ⟨k.length_eq, fun i y e => k.item i y (by rw [← List.getElem?_toArray]; exact e)⟩
    refine ⟨⟨⟨_, r⟩, fun sh short => ?_⟩, fun sh short => ?_⟩ <;> obtain ⟨bs, below, out, k⟩ := go sh short
    · rw [PyData.depth, PyData.shown]
      exact ⟨a :: bs, ReadAtMost.cons r (by rw [PyData.depth]; omega) below, ReprK.list at_a cl dt out (each k).1 (each k).2⟩
    · refine ⟨a, _, _, rfl, slots ?_⟩
      intro A E s Q calm room kept done
      rw [PyData.depth] at room
      rw [PyData.shown] at done short
      exact call_list_reprK at_a cl dt out (each k).1 (each k).2 calm (fun b _ => Clear.nil b) room kept done short
theorem tells_empty {a : Addr} {o : Obj} {es : Array DictEntry} {n : Nat} (other : a ≠ sysModules) (at_a : h₀.get? a = some o) (cl : o.cls = .type "dict") (dt : o.data = .dict es n) (no : es.toList = []) :
    Tells prog w h₀ (.ref a) (.dict []) ∧ Shows prog w h₀ (.ref a) (.dict []) := by
  have r : Reads h₀ (.ref a) (.dict []) [a] := Reads.dict (kvs := []) (as := []) (bs := []) at_a cl dt (by rw [no]; exact ReadsAll.nil) (by rw [no]; exact ReadsAll.nil)
  have out : (a == sysModules) = false := beq_false_of_ne other
  have entries : ReprEntriesK prog w [] h₀ 0 es.toList [] := by rw [no]; exact .nil
  have deep : (PyData.dict []).depth = 0 + 1 := by rw [PyData.depth, PyData.depthKv]
  have text : (PyData.dict []).shown = dictText [] := by rw [PyData.shown, PyData.shownKv]
  refine ⟨⟨⟨_, r⟩, fun _ _ => ⟨[a], ReadAtMost.cons r (Nat.le_refl _) nofun, ?_⟩⟩, fun _ short => ⟨a, "dict", "dict.__repr__", rfl, { slotRepr := F.slot_dict_repr, slotStr := F.slot_dict_str, slotFmt := F.slot_dict_format, typeIs := fun s kept => ⟨o, kept _ _ at_a, cl⟩, call := ?_ }⟩⟩
  · rw [deep, text]
    exact ReprK.dict at_a cl dt out List.not_mem_nil entries
  · intro A E s Q calm room kept done
    rw [deep] at room
    rw [text] at done short
    exact call_dict_reprK at_a cl dt out List.not_mem_nil entries calm (fun b _ => Clear.nil b) room kept done short
theorem tells_flat {v : Value} {d : PyData} {t : Str} (r : Reads h₀ v d []) (is : d.showable = true → d.shown.length ≤ sizeLine → ReprIs prog w v d.shown) : Tells prog w h₀ v d :=
  ⟨⟨_, r⟩, fun sh short => ⟨[], nofun, .of_is (is sh short) _ _ _⟩⟩
mutual
theorem RdN.tells : ∀ (d : PyData) {v : Value}, RdN h₀ v d → Tells prog w h₀ v d
  | .none, _, r => tells_flat (t := "") r fun _ _ => by cases r; exact ReprIs.none
  | .bool _, _, r => tells_flat (t := "") r fun _ _ => by cases r; exact ReprIs.bool _
  | .int _, _, r => tells_flat (t := "") r fun sh _ => by cases r; exact ReprIs.int _ (by simpa [PyData.showable] using sh)
  | .str _, _, r => tells_flat (t := "") r fun _ short => by cases r; exact ReprIs.str _ _ (by rw [PyData.shown] at short; exact short)
  | .list xs, _, r => by obtain ⟨a, o, vs, n, rfl, h1, h2, h3, h4⟩ := r; exact (tells_list h1 h2 h3 (RdNs.tells xs h4)).1
  | .tuple xs, _, r => by obtain ⟨a, o, vs, n, rfl, h1, h2, h3, h4⟩ := r; exact (tells_tuple h1 h2 h3 (RdNs.tells xs h4)).1
  | .dict kvs, _, r => by obtain ⟨rfl, a, o, es, n, rfl, h1, h2, h3, h4, h5⟩ := r; exact (tells_empty h1 h2 h3 h4 h5).1
theorem RdNs.tells : ∀ (ds : List PyData) {vs : List Value}, RdNs h₀ vs ds → TellsAll prog w h₀ vs ds
  | [], _, r => by cases r; exact .none
  | d :: ds, _, r => by obtain ⟨v, us, rfl, a, b⟩ := r; exact .more (RdN.tells d a) (RdNs.tells ds b)
end
theorem RdN.shows {a : Addr} : ∀ {d : PyData}, RdN h₀ (.ref a) d → Shows prog w h₀ (.ref a) d
  | .none, r => nomatch (show Reads _ _ _ _ from r)
  | .bool _, r => nomatch (show Reads _ _ _ _ from r)
  | .int _, r => nomatch (show Reads _ _ _ _ from r)
  | .str _, r => nomatch (show Reads _ _ _ _ from r)
  | .list xs, r => by obtain ⟨b, o, vs, n, e, h1, h2, h3, h4⟩ := r; cases e; exact (tells_list h1 h2 h3 (RdNs.tells xs h4)).2
  | .tuple xs, r => by obtain ⟨b, o, vs, n, e, h1, h2, h3, h4⟩ := r; cases e; exact (tells_tuple h1 h2 h3 (RdNs.tells xs h4)).2
  | .dict kvs, r => by obtain ⟨rfl, b, o, es, n, e, h1, h2, h3, h4, h5⟩ := r; cases e; exact (tells_empty h1 h2 h3 h4 h5).2
theorem repr_of_N {a : Addr} {d : PyData} {A : Around} {E : Value → Shared → Prop} {s : Shared} {Q : Value → Shared → Prop} (r : RdN s.heap (.ref a) d) (sh : d.showable = true) (short : d.shown.length ≤ sizeLine) (calm : A.guards = some []) (room : A.units + (d.depth + 1) < cLine)
    (done : ∀ h' u tk, (∀ b o, s.heap.get? b = some o → h'.get? b = some o) → Q (.str d.shown u) { s with heap := h', toks := tk }) : wpAny (model prog w) A (call (.builtin "repr") [.ref a]) Q E s := by
  obtain ⟨_, T, idr, e, S⟩ := RdN.shows (prog := prog) (w := w) r sh short
  cases e
  have in1 : A.in1.units = A.units + 1 := rfl
  exact call_repr_slot (by omega) (S.typeIs s fun _ _ e => e) S.slotRepr (S.call A.in1 E s _ calm (by omega) (fun _ _ e => e) fun h' u tk kept => ⟨_, _, rfl, done h' u tk kept⟩)
end
mutual
def noO : PyData → Bool
  | .list xs | .tuple xs => noOL xs
  | .dict (_ :: _) => false
  | _ => true
def noOL : List PyData → Bool
  | [] => true
  | x :: xs => noO x && noOL xs
end
mutual
theorem noO_show {K : PySem.W.Frag} {G : Hp} : ∀ {v : V} {d : PyData}, Dn K G v d → d.showable = true → noO d = true
  | _, _, .non, _ => rfl
  | _, _, .bl _, _ => rfl
  | _, _, .int _, _ => rfl
  | _, _, .str _, _ => rfl
  | _, _, .lst _ t, h => by rw [noO]; exact noOL_show t (by simpa [PyData.showable] using h)
  | _, _, .tup _ t, h => by rw [noO]; exact noOL_show t (by simpa [PyData.showable] using h)
  | _, _, .dic _ _, _ => rfl
  | _, _, .ob _ _ _ _, h => by
    have z : ¬ markI.natAbs.log2 < 1920 := by decide +kernel
    simp [PyData.showable, PyData.showableKv, z] at h
theorem noOL_show {K : PySem.W.Frag} {G : Hp} : ∀ {vs : List V} {ds : List PyData}, DnL K G vs ds → PyData.showableAll ds = true → noOL ds = true
  | _, _, .nil, _ => rfl
  | _, _, .cons a b, h => by
    rw [PyData.showableAll, Bool.and_eq_true] at h
    rw [noOL, noO_show a h.1, noOL_show b h.2]
    rfl
end
mutual
theorem noO_lay : ∀ d : PyData, d.canLay0 = true → noO d = true
  | .none, _ => rfl
  | .bool _, _ => rfl
  | .int _, _ => rfl
  | .str _, _ => rfl
  | .list xs, h => by rw [noO]; exact noOL_lay xs (by simpa [PyData.canLay0] using h)
  | .tuple xs, h => by rw [noO]; exact noOL_lay xs (by simpa [PyData.canLay0] using h)
  | .dict _, h => by simp [PyData.canLay0] at h
theorem noOL_lay : ∀ ds : List PyData, PyData.canLayAll0 ds = true → noOL ds = true
  | [], _ => rfl
  | d :: ds, h => by
    rw [PyData.canLayAll0, Bool.and_eq_true] at h
    rw [noOL, noO_lay d h.1, noOL_lay ds h.2]
    rfl
end
omit [Tb] in
@[simp] theorem noO_i (i : Int) : noO (.int i) = true := rfl
omit [Tb] in
@[simp] theorem noO_b (i : Bool) : noO (.bool i) = true := rfl
omit [Tb] in
@[simp] theorem noO_s (i : Str) : noO (.str i) = true := rfl
omit [Tb] in
@[simp] theorem noO_n : noO .none = true := rfl
omit [Tb] in
@[simp] theorem noOL_e : noOL [] = true := rfl
section
variable {X : Cx} {pins : List (Addr × Obj)} {σ : L2.St} {H : Hp} {s : Shared}
mutual
theorem Dn.rdN (I : L2.Inv X pins σ H s) : ∀ (d : PyData) {v : V} {u : Value}, noO d = true → Dn X.K H v d → RelV v u → RdN s.heap u d
  | .none, _, _, _, h, r => by cases h; cases r; exact Reads.none
  | .bool b, _, _, _, h, r => by cases h; cases r; exact Reads.bool b
  | .int i, _, _, _, h, r => by cases h; obtain ⟨t, rfl⟩ := r; exact Reads.int i t
  | .str x, _, _, _, h, r => by cases h; obtain ⟨t, rfl⟩ := r; exact Reads.str x t
  | .list ds, _, _, c, .lst h t, r => by
    rw [noO] at c
    cases r
    obtain ⟨its, rv, ⟨o, n, ho, hc, _, hd⟩, _⟩ := I.list (SqL.of h)
    exact ⟨_, o, _, n, rfl, ho, hc, hd, DnL.rdN I ds c t rv⟩
  | .tuple ds, _, _, c, .tup h t, r => by
    rw [noO] at c
    cases r
    obtain ⟨its, rv, ⟨o, ho, hc, n, hd⟩, _⟩ := I.tuple (SqT.of h)
    exact ⟨_, o, _, n, rfl, ho, hc, hd, DnL.rdN I ds c t rv⟩
  | .dict (_ :: _), _, _, c, _, _ => by simp [noO] at c
  | .dict [], _, _, _, .dic h n, r => by
    cases r
    obtain ⟨_, other, vs, kv, o, es, ep, ho, ⟨hc, _⟩, hd, _, hp, _⟩ := I.hok _ _ h
    cases kv
    have no : ∀ l, Pairs (mixKind X.prog X.w) l ([] : List (L2.Key × Value)) → l = [] := fun l q => by cases q; rfl
    exact ⟨rfl, _, o, es, ep, rfl, beq_eq_false_iff_ne.mp other, ho, hc, hd, no _ hp⟩
theorem DnL.rdN (I : L2.Inv X pins σ H s) : ∀ (ds : List PyData) {vs : List V} {us : List Value}, noOL ds = true → DnL X.K H vs ds → Vals vs us → RdNs s.heap us ds
  | [], _, _, _, h, r => by cases h; cases r; exact rfl
  | d :: ds, _, _, c, .cons a b, .cons r1 r2 => by
    rw [noOL, Bool.and_eq_true] at c
    exact ⟨_, _, rfl, Dn.rdN I d c.1 a r1, DnL.rdN I ds c.2 b r2⟩
end
end

/-- repr of data, with empty dicts or not -/
def pReprN : PN := one fun x R => x.showable = true ∧ x.depth ≤ 60 ∧ x.shown.length ≤ 16000000 ∧ R (.str x.shown)
section
variable {X : Cx}
theorem c_reprN (hg : X.A.guards = some []) (hu : X.A.units + 64 < cLine) : CallD X (.builtin "repr") pReprN := by
  intro pins s σ H vs us Q I r ⟨B, G, δ, σ', ds, R, rel, b, q, k⟩
  match ds, q with
  | [d], ⟨q1, q3, q4, q⟩ =>
    obtain ⟨v, rfl, bd⟩ := b.one
    obtain ⟨u, rfl, ru⟩ := vals1 r; have dn := bd.dn rel
    have fin := k (.str d.shown) H G _ q (Same.refl _) rel (Dn.str _)
    have hsz : d.shown.length ≤ sizeLine := Nat.le_trans q4 (by decide)
    have rd := Dn.rdN I d (noO_show dn q1) dn ru
    have go : ∀ {x : Str} {t : Tok} {s' : Shared}, x = d.shown → Inv X pins σ H s' → EP X pins σ Q (.str x t) s' := fun {x t s'} e I' => by
      subst e
      exact ⟨.str d.shown, H, I', ⟨t, rfl⟩, fin⟩
    have big : ∀ a, u = .ref a → wpAny (model X.prog X.w) X.A (call (.builtin "repr") [u]) (EP X pins σ Q) X.xe s := fun a e => by
      subst e
      exact repr_of_N rd q1 hsz hg (by omega) fun h' u tk hk => go rfl (I.kept hk)
    cases dn with
    | non => cases ru; exact PySem.P.repr_of_none (go rfl (I.tok _))
    | bl b => cases ru; exact PySem.P.repr_of_bool (go (by cases b <;> simp [PyData.shown]) (I.tok _))
    | int i => obtain ⟨t, rfl⟩ := ru; exact PySem.P.repr_of_int (by simpa [PyData.showable] using q1) (go (by simp [PyData.shown]) (I.tok _))
    | str z => obtain ⟨t, rfl⟩ := ru; exact PySem.P.repr_of_str (go (by simp [PyData.shown]) (I.tok _)) (by simpa [PyData.shown] using hsz)
    | lst h t => cases ru; exact big _ rfl
    | tup h t => cases ru; exact big _ rfl
    | dic h n => cases ru; exact big _ rfl
    | ob h k e t => cases ru; exact big _ rfl
end
omit [Tb] in
@[simp ↓] theorem pReprN_x (x : PyData) (R : PyData → Prop) : pReprN [x] R = (x.showable = true ∧ x.depth ≤ 60 ∧ x.shown.length ≤ 16000000 ∧ R (.str x.shown)) := rfl
end DL
set_option Elab.async false
set_option linter.all false
set_option maxRecDepth 100000
set_option maxHeartbeats 4000000
namespace DL
open PySem PySem.Spec PyProof.Rows L2
variable [Tb]
section
variable {prog : Program} {w : World} {A : Around} {E : Value → Shared → Prop} {s : Shared}
end
section
variable {X : Cx}
/-- x[::-1] of a list or a tuple -/
def revD (x : PyData) (k : PyData → Prop) : Prop := match x with
  | .list ds => k (.list ds.reverse)
  | .tuple ds => k (.tuple ds.reverse)
  | _ => False
omit [Tb] in
@[simp ↓] theorem revD_l (ds : List PyData) (k : PyData → Prop) : revD (.list ds) k = k (.list ds.reverse) := rfl
omit [Tb] in
@[simp ↓] theorem revD_t (ds : List PyData) (k : PyData → Prop) : revD (.tuple ds) k = k (.tuple ds.reverse) := rfl
def wRevA (w : DE) : DE := fun δ R => w δ fun o δ1 => use o δ1 fun x => revD x fun z => R (.d z) δ1
omit [Tb] in
@[simp ↓] theorem wRevA_ap (w : DE) (δ : DS) (R : Opd → DS → Prop) : wRevA w δ R = (w δ fun o δ1 => use o δ1 fun x => revD x fun z => R (.d z) δ1) := rfl
def pAddB : P2 := fun x y R => match x, y with
  | .bool b, .int j => R (.int ((if b = true then 1 else 0) + j))
  | x, y => pAdd x y R
def pSubB : P2 := fun x y R => match x, y with
  | .bool b, .int j => R (.int ((if b = true then 1 else 0) - j))
  | x, y => pSub x y R
theorem d_addB : OpD X (binaryOp .Add) pAddB := by
  intro pins s σ H x y v u Q I rx ry ⟨B, G, δ, σ', dx, dy, R, rel, bx, by', q, k⟩
  by_cases c : ∃ b j, dx = .bool b ∧ dy = .int j
  · obtain ⟨b, j, rfl, rfl⟩ := c
    obtain rfl := bor_bool bx
    obtain rfl := bor_int by'
    cases rx
    obtain ⟨t, rfl⟩ := ry
    exact IntBool.add_bool_int ⟨.int _, H, I.tok _, ⟨_, rfl⟩, k _ H G _ q (Same.refl _) rel (Dn.int _)⟩
  · refine d_add pins s σ H x y v u Q I rx ry ⟨B, G, δ, σ', dx, dy, R, rel, bx, by', ?_, k⟩
    unfold pAddB at q
    split at q
    · exact absurd ⟨_, _, rfl, rfl⟩ c
    · exact q
theorem d_subB : OpD X (binaryOp .Sub) pSubB := by
  intro pins s σ H x y v u Q I rx ry ⟨B, G, δ, σ', dx, dy, R, rel, bx, by', q, k⟩
  by_cases c : ∃ b j, dx = .bool b ∧ dy = .int j
  · obtain ⟨b, j, rfl, rfl⟩ := c
    obtain rfl := bor_bool bx
    obtain rfl := bor_int by'
    cases rx
    obtain ⟨t, rfl⟩ := ry
    exact IntBool.sub_bool_int ⟨.int _, H, I.tok _, ⟨_, rfl⟩, k _ H G _ q (Same.refl _) rel (Dn.int _)⟩
  · refine d_sub pins s σ H x y v u Q I rx ry ⟨B, G, δ, σ', dx, dy, R, rel, bx, by', ?_, k⟩
    unfold pSubB at q
    split at q
    · exact absurd ⟨_, _, rfl, rfl⟩ c
    · exact q
omit [Tb] in
@[simp ↓] theorem pAddB_bi (b : Bool) (j : Int) (R : PyData → Prop) : pAddB (.bool b) (.int j) R = R (.int ((if b = true then 1 else 0) + j)) := rfl
omit [Tb] in
@[simp ↓] theorem pAddB_ii (i : Int) (j : Int) (R : PyData → Prop) : pAddB (.int i) (.int j) R = (R (.int (i + j))) := rfl
omit [Tb] in
@[simp ↓] theorem pAddB_ss (a : Str) (b : Str) (R : PyData → Prop) : pAddB (.str a) (.str b) R = (a.length + b.length ≤ 1000000 ∧ R (.str (a ++ b))) := rfl
omit [Tb] in
@[simp ↓] theorem pAddB_tt (xs : List PyData) (ys : List PyData) (R : PyData → Prop) : pAddB (.tuple xs) (.tuple ys) R = (xs.length + ys.length ≤ 1000000 ∧ R (.tuple (xs ++ ys))) := rfl
omit [Tb] in
@[simp ↓] theorem pAddB_ll (xs : List PyData) (ys : List PyData) (R : PyData → Prop) : pAddB (.list xs) (.list ys) R = (xs.length + ys.length ≤ 1000000 ∧ R (.list (xs ++ ys))) := rfl
omit [Tb] in
@[simp ↓] theorem pSubB_bi (b : Bool) (j : Int) (R : PyData → Prop) : pSubB (.bool b) (.int j) R = R (.int ((if b = true then 1 else 0) - j)) := rfl
omit [Tb] in
@[simp ↓] theorem pSubB_ii (i : Int) (j : Int) (R : PyData → Prop) : pSubB (.int i) (.int j) R = (R (.int (i - j))) := rfl
end
end DL
namespace DL
open PySem PySem.Spec PyProof.Rows L2
variable [Tb]
def pStrB : PN := one fun x R => match x with
  | .int i => i.natAbs.log2 < 1920 ∧ R (.str (toString i))
  | .bool b => R (.str (if b then ("True" : Str) else ("False" : Str)))
  | .str z => R (.str z)
  | _ => False
section
variable {X : Cx}
omit [Tb] in
@[simp ↓] theorem pStrB_i (i : Int) (R : PyData → Prop) : pStrB [.int i] R = (i.natAbs.log2 < 1920 ∧ R (.str (toString i))) := rfl
omit [Tb] in
@[simp ↓] theorem pStrB_b (b : Bool) (R : PyData → Prop) : pStrB [.bool b] R = R (.str (if b then ("True" : Str) else ("False" : Str))) := rfl
omit [Tb] in
@[simp ↓] theorem pStrB_s (z : Str) (R : PyData → Prop) : pStrB [.str z] R = R (.str z) := rfl
end
section
variable {P : Program} {w : World} {K : PySem.W.Frag} {mg : Str → Option Value} {base : Heap} {CX : CXT} {f : Addr} {fd : FuncData} {ps : List Str} {k : Nat}
theorem fnG_none {sp : DSp} (h : ∀ cs R, ¬ sp cs R) : FnG P w K mg base CX k f fd ps (liftSp K sp) :=
  ⟨fun vs H Q E ⟨_, _, cs, R, _, hs, _⟩ => absurd hs (h cs R), fun _ _ _ _ _ _ _ _ _ _ _ _ _ ⟨_, _, cs, R, _, hs, _⟩ => absurd hs (h cs R)⟩
end
end DL
set_option Elab.async false
set_option linter.all false
set_option maxRecDepth 100000
set_option maxHeartbeats 4000000
namespace DL
open PySem PySem.Spec PyProof.Rows L2
variable [Tb]
section
omit [Tb]
mutual
theorem noO_alike : ∀ d : PyData, W.alike d d = true → noO d = true
  | .none, _ => rfl
  | .bool _, _ => rfl
  | .int _, _ => rfl
  | .str _, _ => rfl
  | .list xs, h => by rw [noO]; exact noOL_alike xs (by simpa [W.alike] using h)
  | .tuple xs, h => by rw [noO]; exact noOL_alike xs (by simpa [W.alike] using h)
  | .dict _, h => by simp [W.alike] at h
theorem noOL_alike : ∀ ds : List PyData, W.alikeAll ds ds = true → noOL ds = true
  | [], _ => rfl
  | d :: ds, h => by
    rw [W.alikeAll, Bool.and_eq_true] at h
    rw [noOL, noO_alike d h.1, noOL_alike ds h.2]
    rfl
end
end
/-- upwards -/
abbrev leD : PyData → PyData → Bool := W.dataLe false id
def sortD (ds : List PyData) : List PyData := ds.mergeSort leD
def pSorted : PN := one fun x R => match x with
  | .list ds => W.AllAlike ds ∧ W.Sortable ds ∧ ds.length ≤ 1000000 ∧ (∀ d ∈ ds, d.depth ≤ 50) ∧ R (.list (sortD ds))
  | _ => False
section
variable {X : Cx}
end
omit [Tb] in
@[simp ↓] theorem pSorted_l (ds : List PyData) (R : PyData → Prop) : pSorted [.list ds] R = (W.AllAlike ds ∧ W.Sortable ds ∧ ds.length ≤ 1000000 ∧ (∀ d ∈ ds, d.depth ≤ 50) ∧ R (.list (sortD ds))) := rfl
end DL
set_option Elab.async false
set_option linter.all false
set_option maxRecDepth 100000
set_option maxHeartbeats 4000000
namespace DL
open PySem PySem.Spec PyProof.Rows L2
variable [Tb]
def pMaxS : PN := one fun x R => match x with
  | .list ds => ∃ ns : List Int, ds = ns.map PyData.int ∧ 0 < ns.length ∧ ∀ m, m ∈ ns → (∀ y ∈ ns, y ≤ m) → R (.int m)
  | .tuple ds => ∃ ns : List Int, ds = ns.map PyData.int ∧ 0 < ns.length ∧ ∀ m, m ∈ ns → (∀ y ∈ ns, y ≤ m) → R (.int m)
  | _ => False
def pMinS : PN := one fun x R => match x with
  | .list ds => ∃ ns : List Int, ds = ns.map PyData.int ∧ 0 < ns.length ∧ ∀ m, m ∈ ns → (∀ y ∈ ns, m ≤ y) → R (.int m)
  | .tuple ds => ∃ ns : List Int, ds = ns.map PyData.int ∧ 0 < ns.length ∧ ∀ m, m ∈ ns → (∀ y ∈ ns, m ≤ y) → R (.int m)
  | _ => False
section
variable {X : Cx}
end
omit [Tb] in
@[simp ↓] theorem pMaxS_l (ds : List PyData) (R : PyData → Prop) : pMaxS [.list ds] R = onIs ds (fun ns => 0 < ns.length ∧ ∀ m, m ∈ ns → (∀ y ∈ ns, y ≤ m) → R (.int m)) .mk := rfl
omit [Tb] in
@[simp ↓] theorem pMinS_l (ds : List PyData) (R : PyData → Prop) : pMinS [.list ds] R = onIs ds (fun ns => 0 < ns.length ∧ ∀ m, m ∈ ns → (∀ y ∈ ns, m ≤ y) → R (.int m)) .mk := rfl
omit [Tb] in
@[simp ↓] theorem pMaxS_t (ds : List PyData) (R : PyData → Prop) : pMaxS [.tuple ds] R = onIs ds (fun ns => 0 < ns.length ∧ ∀ m, m ∈ ns → (∀ y ∈ ns, y ≤ m) → R (.int m)) .mk := rfl
omit [Tb] in
@[simp ↓] theorem pMinS_t (ds : List PyData) (R : PyData → Prop) : pMinS [.tuple ds] R = onIs ds (fun ns => 0 < ns.length ∧ ∀ m, m ∈ ns → (∀ y ∈ ns, m ≤ y) → R (.int m)) .mk := rfl
end DL
set_option Elab.async false
set_option linter.all false
set_option maxRecDepth 100000
set_option maxHeartbeats 4000000
namespace DL
open PySem PySem.Spec PyProof.Rows L2
variable [Tb]
section
variable {X : Cx} {pos : Pos} {i : Nat}
end
def endsM (i : Nat) (cs : List Cell) (R : Cell → List Cell → Prop) : DEnds := { nx := fun δ => sameIo cs δ ∧ cs.length ≤ i ∧ ∃ a xs, δ[i]? = some (.ol a xs) ∧ R (.ol a xs) (outC cs δ), rt := fun _ _ => False }
section
variable {P : Program} {w : World} {K : PySem.W.Frag} {mg : Str → Option Value} {base : Heap}
end
def wLstRg1 (w : DE) : DL := fun δ R => w δ fun o δ1 => use o δ1 fun x => asI x (fun n => -1000000 ≤ n ∧ n ≤ 1000000 ∧ R (nums 0 n.toNat) δ1) .mk
def wLstRg2 (w u : DE) : DL := fun δ R => w δ fun o δ1 => u δ1 fun o2 δ2 => use o δ2 fun x => use o2 δ2 fun y => asI x (fun m => asI y (fun n => (-1000000 ≤ m ∧ m ≤ 1000000 ∧ -1000000 ≤ n ∧ n ≤ 1000000) ∧ R (nums m (n - m).toNat) δ2) .mk) .mk
omit [Tb] in
@[simp ↓] theorem wLstRg1_ap (w : DE) (δ : DS) (R : List PyData → DS → Prop) : wLstRg1 w δ R = (w δ fun o δ1 => use o δ1 fun x => asI x (fun n => -1000000 ≤ n ∧ n ≤ 1000000 ∧ R (nums 0 n.toNat) δ1) .mk) := rfl
omit [Tb] in
@[simp ↓] theorem wLstRg2_ap (w u : DE) (δ : DS) (R : List PyData → DS → Prop) : wLstRg2 w u δ R = (w δ fun o δ1 => u δ1 fun o2 δ2 => use o δ2 fun x => use o2 δ2 fun y => asI x (fun m => asI y (fun n => (-1000000 ≤ m ∧ m ≤ 1000000 ∧ -1000000 ≤ n ∧ n ≤ 1000000) ∧ R (nums m (n - m).toNat) δ2) .mk) .mk) := rfl
section
variable {X : Cx} {pos : Pos}
def wPopA (i : Nat) (w : DE) : DE := fun δ R => isOl δ i ∧ w δ fun o δ1 => use o δ1 fun z => asI z (fun j => olC δ1[i]? (fun a xs => 0 ≤ j ∧ j < xs.length ∧ xs.length ≤ 1000000 ∧ onS xs[j.toNat]? (fun y => R (.d y) (δ1.set i (.ol a (xs.eraseIdx j.toNat)))) .mk) .mk) .mk
omit [Tb] in
@[simp ↓] theorem wPopA_ap (i : Nat) (w : DE) (δ : DS) (R : Opd → DS → Prop) : wPopA i w δ R = (isOl δ i ∧ w δ fun o δ1 => use o δ1 fun z => asI z (fun j => olC δ1[i]? (fun a xs => 0 ≤ j ∧ j < xs.length ∧ xs.length ≤ 1000000 ∧ onS xs[j.toNat]? (fun y => R (.d y) (δ1.set i (.ol a (xs.eraseIdx j.toNat)))) .mk) .mk) .mk) := rfl
theorem onS_inv {α : Type} {o : Option α} {k : α → Prop} {u : Stop k} (h : onS o k u) : ∃ z, o = some z ∧ k z := by
  cases o with
  | none => exact h.elim
  | some z => exact ⟨z, rfl, h⟩
end
def lsC (x : PyData) (k : List PyData → Prop) (_u : Stop k) : Prop := match x with
  | .list xs => k xs
  | _ => False
omit [Tb] in
@[simp ↓] theorem lsC_l (xs : List PyData) (k : List PyData → Prop) (u : Stop k) : lsC (.list xs) k u = k xs := rfl
theorem lsC_inv {x : PyData} {k : List PyData → Prop} {u : Stop k} (h : lsC x k u) : ∃ xs, x = .list xs ∧ k xs := by
  cases x <;> first | exact h.elim | exact ⟨_, rfl, h⟩
def ixOf (ds : List PyData) (y : PyData) : Option Nat := ds.findIdx? fun z => PyData.eqv z y
theorem ixOf_some {ds : List PyData} {y : PyData} {j : Nat} (h : ixOf ds y = some j) : ∃ z, ds[j]? = some z ∧ PyData.eqv z y = true ∧ ∀ m z', m < j → ds[m]? = some z' → PyData.eqv z' y = false := by
  unfold ixOf at h
  rw [List.findIdx?_eq_some_iff_getElem] at h
  obtain ⟨hj, h1, h2⟩ := h
  refine ⟨ds[j], List.getElem?_eq_getElem hj, h1, fun m z' hm hz => ?_⟩
  have := h2 m hm
  rw [List.getElem?_eq_getElem (by omega)] at hz
  cases hz
  simpa using this
def wIndex (w u : DE) : DE := fun δ R => w δ fun o δ1 => use o δ1 fun x => lsC x (fun _ => u δ1 fun o2 δ2 => use o δ2 fun x2 => use o2 δ2 fun y => lsC x2 (fun ds => SeqAt.shaped (.list ds) = true ∧ SeqAt.shaped y = true ∧ onS (ixOf ds y) (fun j => R (.d (.int (j : Nat))) δ2) .mk) .mk) .mk
omit [Tb] in
@[simp ↓] theorem wIndex_ap (w u : DE) (δ : DS) (R : Opd → DS → Prop) : wIndex w u δ R = (w δ fun o δ1 => use o δ1 fun x => lsC x (fun _ => u δ1 fun o2 δ2 => use o δ2 fun x2 => use o2 δ2 fun y => lsC x2 (fun ds => SeqAt.shaped (.list ds) = true ∧ SeqAt.shaped y = true ∧ onS (ixOf ds y) (fun j => R (.d (.int (j : Nat))) δ2) .mk) .mk) .mk) := rfl
section
variable {X : Cx} {pos : Pos}
theorem je_index {o e : Expr} {w u : DE} {apos cpos : Pos}
    (hb : PE X (.Call (.Attribute o "index" apos) [e] [] cpos) (tBM X.K "list" (rIndexD X.K) (up X.K w) (tCons (up X.K u) tNil))) : JE X (.Call (.Attribute o "index" apos) [e] [] cpos) (wIndex w u) :=
  pe_le hb fun pins s σ H Q I ⟨B, G, δ, R, rel, hw, k⟩ => ⟨B, G, δ, _, rel, hw, fun v H1 G1 o1 δ1 r1 s1 rel1 ok1 => by
    obtain ⟨x, q, b⟩ := use_ok rel1 ok1 r1
    obtain ⟨ds0, rfl, q1⟩ := lsC_inv q
    obtain ⟨a, vs, rfl, ha, ta⟩ := bor_lst rel1 b
    refine ⟨.inl ⟨rfl, _, SqL.of ha⟩, B, G1, δ1, _, rel1, q1, fun v2 H2 G2 o2 δ2 r2 s2 rel2 ok2 => ?_⟩
    obtain ⟨x2, q2, b2⟩ := use_ok rel2 (ok1.mono s2) r2
    obtain ⟨y, q3, b3⟩ := use_ok rel2 ok2 q2
    obtain ⟨ds, rfl, h1, h2, q4⟩ := lsC_inv q3
    obtain ⟨j, hj, q5⟩ := onS_inv q4
    obtain ⟨z, hz, he, hn⟩ := ixOf_some hj
    exact ⟨a, v2, y, ds, j, z, rfl, rfl, Dn.dp _ (noDict_of_shaped h1) (b2.dn rel2), Dn.dp _ (noDict_of_shaped h2) (b3.dn rel2), h1, h2, hz, he, hn, k _ H2 G2 _ _ q5 (s1.trans s2) rel2 (Dn.int _)⟩⟩
end
end DL
set_option Elab.async false
set_option linter.all false
set_option maxRecDepth 100000
set_option maxHeartbeats 4000000
namespace DL
open PySem PySem.Spec PyProof.Rows L2
variable [Tb]
variable {g : DTG} {t : DT} {e : DE} {vs : List Nat} {xs : List PyData} {δ : DS}
end DL
set_option Elab.async false
set_option linter.all false
set_option maxRecDepth 100000
set_option maxHeartbeats 4000000
namespace DL
open PySem PySem.Spec PyProof.Rows L2
variable [Tb]
mutual
theorem eq_of_eqv : ∀ (x y : PyData), W.alike x y = true → PyData.eqv x y = true → x = y
  | .none, y, h, e => by cases y <;> simp [W.alike] at h ⊢
  | .bool a, y, h, e => by cases y <;> simp [W.alike, PyData.eqv] at h e ⊢; exact e
  | .int a, y, h, e => by cases y <;> simp [W.alike, PyData.eqv] at h e ⊢; exact e
  | .str a, y, h, e => by cases y <;> simp [W.alike, PyData.eqv] at h e ⊢; exact e
  | .list xs, y, h, e => by
    cases y with
    | list ys => rw [eq_of_eqvAll xs ys (by simpa [W.alike] using h) (by simpa [PyData.eqv] using e)]
    | _ => simp [W.alike] at h
  | .tuple xs, y, h, e => by
    cases y with
    | tuple ys => rw [eq_of_eqvAll xs ys (by simpa [W.alike] using h) (by simpa [PyData.eqv] using e)]
    | _ => simp [W.alike] at h
  | .dict xs, y, h, e => by cases y <;> simp [W.alike] at h
theorem eq_of_eqvAll : ∀ (xs ys : List PyData), W.alikeAll xs ys = true → PyData.eqvAll xs ys = true → xs = ys
  | [], ys, h, e => by cases ys <;> simp [PyData.eqvAll] at e ⊢
  | x :: xs, ys, h, e => by
    cases ys with
    | nil => simp [PyData.eqvAll] at e
    | cons y ys =>
      rw [W.alikeAll, Bool.and_eq_true] at h
      rw [PyData.eqvAll, Bool.and_eq_true] at e
      rw [eq_of_eqv x y h.1 e.1, eq_of_eqvAll xs ys h.2 e.2]
end
end DL
set_option Elab.async false
set_option linter.all false
set_option maxRecDepth 100000
set_option maxHeartbeats 4000000
namespace DL
open PySem PySem.Spec PyProof.Rows L2
variable [Tb]
inductive Pt
  | val (d : PyData)
  | cap (i : Nat)
def eachM : List Pt → List PyData → (Option (List (Nat × PyData)) → Prop) → Prop
  | [], [], k => k (some [])
  | .val d :: ps, x :: xs, k => pEq x d fun z => ∃ b, z = .bool b ∧ if b = true then eachM ps xs k else k none
  | .cap i :: ps, x :: xs, k => eachM ps xs fun o => match o with
    | none => k none
    | some bs => k (some ((i, x) :: bs))
  | _, _, _ => False
def setsD (δ : DS) : List (Nat × PyData) → DS
  | [] => δ
  | (i, x) :: r => setsD (δ.set i (.d x)) r
inductive Ct
  | seq (ps : List Pt) (b : DTS)
  | wild (b : DTS)
def caseM : List Ct → List PyData → DTS
  | [], _, E, δ => E.nx δ
  | .wild b :: _, _, E, δ => b E δ
  | .seq ps b :: cs, xs, E, δ => if xs.length = ps.length then eachM ps xs fun o => match o with
      | none => caseM cs xs E δ
      | some bs => b E (setsD δ bs)
    else caseM cs xs E δ
def tpC (x : PyData) (k : List PyData → Prop) (_u : Stop k) : Prop := match x with
  | .tuple xs => k xs
  | _ => False
omit [Tb] in
@[simp ↓] theorem tpC_t (xs : List PyData) (k : List PyData → Prop) (u : Stop k) : tpC (.tuple xs) k u = k xs := rfl
theorem tpC_inv {x : PyData} {k : List PyData → Prop} {u : Stop k} (h : tpC x k u) : ∃ xs, x = .tuple xs ∧ k xs := by
  cases x <;> first | exact h.elim | exact ⟨_, rfl, h⟩
def wMatch (w : DE) (cs : List Ct) : DTS := fun E δ => w δ fun o δ1 => lk o δ1 fun x δ2 => tpC x (fun xs => xs.length ≤ 1000000 ∧ caseM cs xs E δ2) .mk
omit [Tb] in
@[simp ↓] theorem wMatch_ap (w : DE) (cs : List Ct) (E : DEnds) (δ : DS) : wMatch w cs E δ = (w δ fun o δ1 => lk o δ1 fun x δ2 => tpC x (fun xs => xs.length ≤ 1000000 ∧ caseM cs xs E δ2) .mk) := rfl
omit [Tb] in
@[simp ↓] theorem eachM_nil (k : Option (List (Nat × PyData)) → Prop) : eachM [] [] k = k (some []) := rfl
omit [Tb] in
@[simp ↓] theorem eachM_val (d x : PyData) (ps : List Pt) (xs : List PyData) (k : Option (List (Nat × PyData)) → Prop) : eachM (.val d :: ps) (x :: xs) k = (pEq x d fun z => ∃ b, z = .bool b ∧ if b = true then eachM ps xs k else k none) := rfl
omit [Tb] in
@[simp ↓] theorem eachM_cap (i : Nat) (x : PyData) (ps : List Pt) (xs : List PyData) (k : Option (List (Nat × PyData)) → Prop) : eachM (.cap i :: ps) (x :: xs) k = (eachM ps xs fun o => match o with
    | none => k none
    | some bs => k (some ((i, x) :: bs))) := rfl
omit [Tb] in
@[simp ↓] theorem caseM_nil (xs : List PyData) (E : DEnds) (δ : DS) : caseM [] xs E δ = E.nx δ := rfl
omit [Tb] in
@[simp ↓] theorem caseM_wild (b : DTS) (cs : List Ct) (xs : List PyData) (E : DEnds) (δ : DS) : caseM (.wild b :: cs) xs E δ = b E δ := rfl
omit [Tb] in
@[simp ↓] theorem caseM_seq (ps : List Pt) (b : DTS) (cs : List Ct) (xs : List PyData) (E : DEnds) (δ : DS) : caseM (.seq ps b :: cs) xs E δ = (if xs.length = ps.length then eachM ps xs fun o => match o with
      | none => caseM cs xs E δ
      | some bs => b E (setsD δ bs)
    else caseM cs xs E δ) := rfl
omit [Tb] in
@[simp ↓] theorem setsD_nil (δ : DS) : setsD δ [] = δ := rfl
omit [Tb] in
@[simp ↓] theorem setsD_cons (δ : DS) (i : Nat) (x : PyData) (r : List (Nat × PyData)) : setsD δ ((i, x) :: r) = setsD (δ.set i (.d x)) r := rfl
inductive PtOk (X : Cx) : List Pattern → List Pt → Prop
  | nil : PtOk X [] []
  | val {e : Expr} {v : V} {d : PyData} {pos : Pos} {ps : List Pattern} {qs : List Pt} (h : PE X e (tC v)) (hv : ∀ K G, Dn K G v d) (t : PtOk X ps qs) : PtOk X (.MatchValue e pos :: ps) (.val d :: qs)
  | cap {x : Str} {i : Nat} {pos : Pos} {ps : List Pattern} {qs : List Pt} (hi : X.N[i]? = some x) (hx : Loc X.env.scope x) (hf : X.fn x = true ∨ X.env.scope.names.lookup x = some .local) (t : PtOk X ps qs) : PtOk X (.MatchAs none (some x) pos :: ps) (.cap i :: qs)
theorem PtOk.len {X : Cx} {ps : List Pattern} {qs : List Pt} (h : PtOk X ps qs) : ps.length = qs.length := by
  induction h with
  | nil => rfl
  | val _ _ _ ih => simp [ih]
  | cap _ _ _ _ ih => simp [ih]
inductive BsOk (X : Cx) (G : Hp) : List (Str × Value) → List (Nat × PyData) → Prop
  | nil : BsOk X G [] []
  | cons {x : Str} {u : Value} {v : V} {i : Nat} {d : PyData} {bs : List (Str × Value)} {os : List (Nat × PyData)} (hi : X.N[i]? = some x) (hx : Loc X.env.scope x) (hf : X.fn x = true ∨ X.env.scope.names.lookup x = some .local) (r : RelV v u) (h : Dn X.K G v d) (t : BsOk X G bs os) : BsOk X G ((x, u) :: bs) ((i, d) :: os)
inductive RoOk (X : Cx) (G : Hp) : Option (List (Str × Value)) → Option (List (Nat × PyData)) → Prop
  | none : RoOk X G none none
  | some {bs : List (Str × Value)} {os : List (Nat × PyData)} (h : BsOk X G bs os) : RoOk X G (some bs) (some os)
section
variable {X : Cx}
theorem each_ok (hu : X.A.units + 64 < cLine) {δ : DS} {σ : L2.St} {B : Hp} {pins : List (Addr × Obj)} : ∀ {ps : List Pattern} {qs : List Pt} (h : PtOk X ps qs) {vs : List V} {us : List Value} {xs : List PyData} {H G : Hp} {s : Shared} {k : Option (List (Nat × PyData)) → Prop} {Q : Option (List (Str × Value)) → Shared → Prop}
    (rv : Vals vs us) (dn : DnL X.K G vs xs) (I : Inv X pins σ H s) (rel : Rel X.K B G δ σ H) (hk : eachM qs xs k)
    (hQ : ∀ r o s' H' G', Inv X pins σ H' s' → Same G G' → Rel X.K B G' δ σ H' → RoOk X G' r o → k o → Q r s'), wpAny (model X.prog X.w) X.A (matchEach ps X.env us) Q X.xe s := by
  intro ps qs h
  induction h with
  | nil =>
    intro vs us xs H G s k Q rv dn I rel hk hQ
    cases xs with
    | nil => exact wpAny_matchEach_nil (hQ _ _ _ _ _ I (Same.refl _) rel (.some .nil) hk)
    | cons x xs => exact hk.elim
  | @val e v d pos ps qs he hv t ih =>
    intro vs us xs H G s k Q rv dn I rel hk hQ
    cases xs with
    | nil => exact hk.elim
    | cons x xs =>
      cases dn with
      | cons d1 d2 =>
        cases rv with
        | cons r1 r2 =>
          refine wpAny_matchEach_cons (wpAny_matchPattern_Value ?_)
          refine thn (he.run pins s σ H (fun v' H' => v' = v ∧ H' = H) I ⟨rfl, rfl⟩) fun u s1 ⟨v', H1, I1, ru, e1, e2⟩ => ?_
          subst e1 e2
          refine thn (d_eq hu pins s1 σ H1 _ _ _ _ (fun z H' => ∃ G' dz, Same G G' ∧ Rel X.K B G' δ σ H' ∧ Dn X.K G' z dz ∧ ∃ b, dz = .bool b ∧ if b = true then eachM qs xs k else k none) I1 r1 ru ⟨B, G, δ, σ, x, d, _, rel, .inl d1, .inl (hv _ _), hk, fun z H' G' dz q s2 rel2 dn2 => ⟨G', dz, s2, rel2, dn2, q⟩⟩) fun c s2 ⟨z, H2, I2, rz, G2, dz, sg, rel2, dnz, b, e, q⟩ => ?_
          subst e
          obtain rfl := dn_bool dnz
          have rc : c = .bool b := rz
          subst rc
          refine wpAny_truthy_bool ?_
          cases b with
          | true =>
            simp only [if_true] at q ⊢
            refine ih r2 (d2.mono sg) I2 rel2 q fun r o s' H' G' I' sg' rel' ro kk => ?_
            cases ro with
            | none => exact hQ _ _ _ _ _ I' (sg.trans sg') rel' .none kk
            | some hb => exact hQ _ _ _ _ _ I' (sg.trans sg') rel' (.some (by simpa using hb)) kk
          | false =>
            simp only [Bool.false_eq_true, if_false] at q ⊢
            exact hQ _ _ _ _ _ I2 sg rel2 .none q
  | @cap x i pos ps qs hi hx hf t ih =>
    intro vs us xs H G s k Q rv dn I rel hk hQ
    cases xs with
    | nil => exact hk.elim
    | cons d xs =>
      cases dn with
      | cons d1 d2 =>
        cases rv with
        | cons r1 r2 =>
          refine wpAny_matchEach_cons (wpAny_matchPattern_Capture ?_)
          refine ih r2 d2 I rel hk fun r o s' H' G' I' sg' rel' ro kk => ?_
          cases ro with
          | none => exact hQ _ _ _ _ _ I' sg' rel' .none kk
          | some hb => exact hQ _ _ _ _ _ I' sg' rel' (.some (.cons hi hx hf r1 (d1.mono sg') hb)) kk
theorem binds_ok (hN : X.N.Nodup) {B : Hp} {pins : List (Addr × Obj)} {G H : Hp} : ∀ {bs : List (Str × Value)} {os : List (Nat × PyData)} (h : BsOk X G bs os) {σ : L2.St} {δ : DS} {s : Shared} {Q : Unit → Shared → Prop} (I : Inv X pins σ H s) (rel : Rel X.K B G δ σ H)
    (hQ : ∀ s' σ', Inv X pins σ' H s' → Rel X.K B G (setsD δ os) σ' H → Q () s'), wpAny (model X.prog X.w) X.A (assignInOrder (bs.map fun (n, _) => bindName X.env n) (bs.map (·.2))) Q X.xe s := by
  intro bs os h
  induction h with
  | nil => intro σ δ s Q I rel hQ; exact wpAny_assignInOrder_none (hQ _ _ I rel)
  | cons hi hx hf r d t ih =>
    intro σ δ s Q I rel hQ
    exact wpAny_assignInOrder_more (wpAny_bindName (store_ok I hN hi hx r (fun s1 I1 => ih I1 (rel.setD d) hQ) hf))
inductive CsOk (X : Cx) : List MatchCase → List Ct → Prop
  | nil : CsOk X [] []
  | wild {body : List Stmt} {b : DTS} {pos : Pos} {rest : List MatchCase} {ws : List Ct} (hb : JSs X body b) : CsOk X (⟨.MatchAs none none pos, none, body⟩ :: rest) (.wild b :: ws)
  | seq {ps : List Pattern} {qs : List Pt} {pos : Pos} {body : List Stmt} {b : DTS} {rest : List MatchCase} {ws : List Ct} (h : PtOk X ps qs) (hstar : ps.findIdx? (·.isStar) = none) (hwild : (ps.all fun p => p.isWildcard || (p.isStar && p.names.isEmpty)) = false) (hb : JSs X body b) (t : CsOk X rest ws) : CsOk X (⟨.MatchSequence ps pos, none, body⟩ :: rest) (.seq qs b :: ws)
theorem CsOk.seq' {ps : List Pattern} {qs : List Pt} {pos : Pos} {body : List Stmt} {b : DTS} {rest : List MatchCase} {ws : List Ct} (h : PtOk X ps qs) (hb : JSs X body b) (t : CsOk X rest ws) (hstar : ps.findIdx? (·.isStar) = none := by rfl) (hwild : (ps.all fun p => p.isWildcard || (p.isStar && p.names.isEmpty)) = false := by rfl) : CsOk X (⟨.MatchSequence ps pos, none, body⟩ :: rest) (.seq qs b :: ws) := .seq h hstar hwild hb t
theorem PtOk.str {x : Str} {j : Nat} {p pos : Pos} {ps : List Pattern} {qs : List Pt} (t : PtOk X ps qs) : PtOk X (.MatchValue (.Constant (.str x) j p) pos :: ps) (.val (.str x) :: qs) := .val pe_str (fun _ _ => .str x) t
theorem PtOk.int {x : Int} {j : Nat} {p pos : Pos} {ps : List Pattern} {qs : List Pt} (t : PtOk X ps qs) : PtOk X (.MatchValue (.Constant (.int x) j p) pos :: ps) (.val (.int x) :: qs) := .val pe_int (fun _ _ => .int x) t
theorem cases_ok (hc : X.calm = true) (hu : X.A.units + 64 < cLine) (hN : X.N.Nodup) {B : Hp} {δ : DS} {σ : L2.St} {pins : List (Addr × Obj)} {E : DEnds} {D : Ends} {v : V} {u : Value} {xs : List PyData} (hz : xs.length ≤ 1000000) (r : RelV v u) :
    ∀ {cs : List MatchCase} {ws : List Ct} (h : CsOk X cs ws) {first : Bool} {s : Shared} {H G : Hp} (I : Inv X pins σ H s) (rel : Rel X.K B G δ σ H) (dn : Dn X.K G v (.tuple xs)) (hw : caseM ws xs E δ) (k : EndsOk X.K B G E D),
      wpAny (model X.prog X.w) X.A (matchCases cs X.env u first) (SP X pins D) X.xe s := by
  intro cs ws h
  induction h with
  | nil =>
    intro first s H G I rel dn hw k
    exact wpAny_matchCases_nil ⟨σ, H, I, k.nx σ H G δ hw (Same.refl _) rel⟩
  | wild hb =>
    intro first s H G I rel dn hw k
    refine wpAny_matchCases_cons (wpAny_matchPattern_Capture ?_)
    exact wpAny_assignInOrder_none (hb.run pins s σ H D I ⟨B, G, δ, E, rel, hw, k⟩)
  | @seq ps qs pos body b rest ws hp hstar hwild hb t ih =>
    intro first s H G I rel dn hw k
    cases dn with
    | @tup a vs _ hsq tl =>
      have ru : u = .ref a := r
      subst ru
      obtain ⟨its, rv, p, hz2⟩ := I.tuple (sqT_mono rel.sg (SqT.of hsq))
      have hl1 : its.length = vs.length := (rv.length).symm
      have hl2 := tl.len
      have hl3 := hp.len
      have hfit : (its.toArray.size : Int) < 2 ^ 63 := by simp only [List.size_toArray]; omega
      rw [caseM_seq] at hw
      by_cases hn : xs.length = qs.length
      · rw [if_pos hn] at hw
        refine wpAny_matchCases_cons (matchSeq_tuple_hit p hfit (by simp only [List.size_toArray]; omega) ?_ hstar hwild)
        have e : ps.length = its.toArray.size := by simp only [List.size_toArray]; omega
        rw [e]
        refine unpackItems_tuple (I.ok.hd hc) p fun h' hx' => ?_
        have I2 := I.kept (h' := h') (t' := s.toks + 1 + 1) fun b o e => hx' b o (Nat.ne_of_lt (Heap.lt_size e)) e
        refine each_ok hu hp (us := its.toArray.toList) (by simpa using rv) tl I2 rel hw fun r' o s' H' G' I' sg' rel' ro kk => ?_
        cases ro with
        | none => exact ih I' rel' (.tup (sg' _ _ hsq) (tl.mono sg')) kk (k.mono sg')
        | some hbs => exact binds_ok hN hbs I' rel' fun s2 σ2 I3 rel3 => hb.run pins s2 σ2 H' D I3 ⟨B, G', _, E, rel3, kk, k.mono sg'⟩
      · rw [if_neg hn] at hw
        refine wpAny_matchCases_cons (matchSeq_tuple_miss p hfit (by simp only [List.size_toArray]; omega) ?_ hstar hwild)
        exact ih (I.tok _) rel (.tup hsq tl) hw k
theorem js_match {e : Expr} {w : DE} {cs : List MatchCase} {ws : List Ct} {pos : Pos} (hc : X.calm = true) (hu : X.A.units + 64 < cLine) (hN : X.N.Nodup) (he : JE X e w) (hcs : CsOk X cs ws) : JS X (.Match e cs pos) (wMatch w ws) :=
  ⟨fun pins s σ H D I ⟨B, G, δ, E, rel, hw, k⟩ => by
    refine wpAny_Match (thn (he.run pins s σ H (fun v H1 => ∃ G1 δ1 xs, xs.length ≤ 1000000 ∧ caseM ws xs E δ1 ∧ Same G G1 ∧ Rel X.K B G1 δ1 σ H1 ∧ Dn X.K G1 v (.tuple xs)) I ⟨B, G, δ, _, rel, hw, fun v H1 G1 o δ1 r1 s1 rel1 ok1 => ?_⟩) fun u s1 ⟨v, H1, I1, ru, G1, δ1, xs, hz, q, sg, rel1, dn⟩ => ?_)
    · obtain ⟨G2, δ2, x, q, s2, rel2, dn⟩ := lk_ok rel1 ok1 r1
      obtain ⟨xs, rfl, hz, q2⟩ := tpC_inv q
      exact ⟨G2, δ2, xs, hz, q2, s1.trans s2, rel2, dn⟩
    · exact cases_ok hc hu hN hz ru hcs I1 rel1 dn q (k.mono sg)⟩
end
end DL
namespace DL
open PySem PySem.Spec PyProof.Rows L2
variable [Tb]
theorem PtOk.cap2 {X : Cx} {x : Str} {i : Nat} {pos : Pos} {ps : List Pattern} {qs : List Pt} (t : PtOk X ps qs) (hi : X.N[i]? = some x := by rfl) (hx : Loc X.env.scope x := by first | exact .inl rfl | exact .inr rfl) (hf : X.fn x = true ∨ X.env.scope.names.lookup x = some .local := by first | exact .inl rfl | exact .inr rfl) : PtOk X (.MatchAs none (some x) pos :: ps) (.cap i :: qs) := .cap hi hx hf t
end DL
set_option Elab.async false
set_option linter.all false
set_option maxRecDepth 100000
set_option maxHeartbeats 4000000
namespace DL
open PySem PySem.Spec PyProof.Rows L2
variable [Tb]
def wPar4 (i j k l : Nat) (w : DMs) : DTS := fun E δ => w δ fun cs δ1 => ∃ c d e f, cs = [c, d, e, f] ∧ E.nx ((((δ1.set i c).set j d).set k e).set l f)
omit [Tb] in
@[simp ↓] theorem wPar4_ap (i j k l : Nat) (w : DMs) (E : DEnds) (δ : DS) : wPar4 i j k l w E δ = (w δ fun cs δ1 => match cs with
  | [c, d, e, f] => E.nx ((((δ1.set i c).set j d).set k e).set l f)
  | _ => False) := by
  unfold wPar4
  congr 1; funext cs δ1
  match cs with
  | [] => simp
  | [c] => simp
  | [c, d] => simp
  | [c, d, e] => simp
  | [c, d, e, f] => exact propext ⟨fun ⟨c', d', e', f', h0, h⟩ => by cases h0; exact h, fun h => ⟨c, d, e, f, rfl, h⟩⟩
  | c :: d :: e :: f :: g :: r => simp
section
variable {X : Cx} {pos : Pos}
end
end DL
set_option Elab.async false
set_option linter.all false
set_option maxRecDepth 100000
set_option maxHeartbeats 4000000
namespace DL
open PySem PySem.Spec PyProof.Rows L2
variable [Tb]
section
variable {X : Cx} {pos : Pos}
end
end DL
set_option Elab.async false
set_option linter.all false
set_option maxRecDepth 100000
set_option maxHeartbeats 4000000
namespace DL
open PySem PySem.Spec PyProof.Rows L2
variable [Tb]
section
variable {X : Cx}
def pMulW : P2 := fun x y R => match x, y with
  | .tuple xs, .int k => (0 < xs.length ∧ xs.length ≤ 10 ∧ 2 ≤ k ∧ k ≤ 100000) ∧ R (.tuple (List.replicate k.toNat xs).flatten)
  | _, _ => False
omit [Tb] in
@[simp ↓] theorem pMulW_ti (xs : List PyData) (k : Int) (R : PyData → Prop) : pMulW (.tuple xs) (.int k) R = ((0 < xs.length ∧ xs.length ≤ 10 ∧ 2 ≤ k ∧ k ≤ 100000) ∧ R (.tuple (List.replicate k.toNat xs).flatten)) := rfl
end
end DL
set_option Elab.async false
set_option linter.all false
set_option maxRecDepth 100000
set_option maxHeartbeats 4000000
namespace DL
open PySem PySem.Spec PyProof.Rows L2
variable [Tb]
section
variable {X : Cx} {nm : Option Str} {e : Expr} {kws : List Keyword} {kpos : Pos}
end
/-- in the parameters' order -/
def permO {α : Type} (z : α) (ix : List Nat) (os : List α) : List α := ix.map fun i => os.getD i z
def KB0 (K : PySem.W.Frag) (fd : FuncData) (ps ks : List Str) (ix : List Nat) : Prop :=
  ∀ (s : Shared) (ws : List Value), K.In s.heap → ws.length = ks.length → BindsTo s fd ⟨[], ks.zip ws⟩ (ps.zip (permO Value.none ix ws))
theorem KB0.of {K : PySem.W.Frag} {fd : FuncData} {ps ks : List Str} {ix : List Nat} (h : ∀ ws : List Value, ws.length = ks.length → bindArgs fd ⟨[], ks.zip ws⟩ = pure (ps.zip (permO Value.none ix ws))) : KB0 K fd ps ks ix := fun s ws _ hl => .of_eq (h ws hl)
theorem Fun.kb {K : PySem.W.Frag} {x qual : Str} {st : Stmt} {f : Addr} {fd : FuncData} {ps ks : List Str} {ix : List Nat} (F : Fun K x qual st f fd)
    (h : ∀ (kV doc pm : Value) (an : Option Addr) (cdv ct : Value) (ws : List Value), ws.length = ks.length → bindArgs (PySem.W.fnOf x qual (defArgs st) (defBody st) (defScope st) .none kV doc pm an cdv ct) ⟨[], ks.zip ws⟩ = pure (ps.zip (permO Value.none ix ws))) : KB0 K fd ps ks ix := by
  obtain ⟨oc, od, kV, doc, pm, an, cdv, ct, osl, rfl, lk, hcd⟩ := F.ex
  exact .of (h kV doc pm an cdv ct)
def wCallK (n : Nat) (ix : List Nat) (sp : DSp) (w : DA) : DE := fun δ R => w δ fun os δ1 => lkM [] os δ1 fun os' δ2 => (os'.length = n ∧ ∀ i ∈ ix, i < n) ∧ (slotsOf (permO (.d .none) ix os')).Nodup ∧ sp ((permO (.d .none) ix os').map (cellOf δ2)) fun x cs => R (.d x) (putBack (permO (.d .none) ix os') cs δ2)
section
variable {X : Cx} {CX : CXT} {k : Nat} {f : Addr} {fd : FuncData} {ps ks : List Str} {x : Str} {p pos : Pos} {kws : List Keyword} {ix : List Nat}
end
omit [Tb] in
@[simp ↓] theorem wCallK_ap (n : Nat) (ix : List Nat) (sp : DSp) (w : DA) (δ : DS) (R : Opd → DS → Prop) : wCallK n ix sp w δ R = (w δ fun os δ1 => lkM [] os δ1 fun os' δ2 => (os'.length = n ∧ ∀ i ∈ ix, i < n) ∧ (slotsOf (permO (.d .none) ix os')).Nodup ∧ ask sp ((permO (.d .none) ix os').map (cellOf δ2)) (fun x cs => R (.d x) (putBack (permO (.d .none) ix os') cs δ2)) .mk) := rfl
omit [Tb] in
@[simp ↓] theorem permO_nil {α : Type} (z : α) (os : List α) : permO z [] os = [] := rfl
omit [Tb] in
@[simp ↓] theorem permO_cons {α : Type} (z : α) (i : Nat) (ix : List Nat) (os : List α) : permO z (i :: ix) os = os.getD i z :: permO z ix os := rfl
end DL
set_option Elab.async false
set_option linter.all false
set_option maxRecDepth 100000
set_option maxHeartbeats 4000000
namespace DL
open PySem PySem.Spec PyProof.Rows L2
variable [Tb]
abbrev KVs := List (List Int × PyData)
def valD (kvs : KVs) (k : List Int) : Option PyData := (kvs.find? fun p => decide (p.1 = k)).map (·.2)
def putD (kvs : KVs) (k : List Int) (x : PyData) : KVs := if (kvs.any fun p => decide (p.1 = k)) = true then kvs.map (fun p => if p.1 = k then (p.1, x) else p) else kvs ++ [(k, x)]
theorem keyI_inj : ∀ {a b : List Int}, keyI a = keyI b → a = b
  | [], [], _ => rfl
  | [], _ :: _, h => by simp [keyI] at h
  | _ :: _, [], h => by simp [keyI] at h
  | x :: a, y :: b, h => by
    have h : (Sum.inl x : Key) :: keyI a = (Sum.inl y : Key) :: keyI b := h
    obtain ⟨h1, h2⟩ := List.cons.inj h
    rw [keyI_inj h2, Sum.inl.inj h1]
section
variable {K : PySem.W.Frag} {G : Hp}
theorem DnK.nil : DnK K G [] [] := ⟨rfl, .nil⟩
theorem DnK.cons {w : List Key × V} {ws : List (List Key × V)} {p : List Int × PyData} {kvs : KVs} (h1 : w.1 = keyI p.1) (h2 : Dn K G w.2 p.2) (t : DnK K G ws kvs) : DnK K G (w :: ws) (p :: kvs) := ⟨by rw [List.map_cons, List.map_cons, h1, t.1], .cons h2 t.2⟩
theorem DnK.inv {ws : List (List Key × V)} {p : List Int × PyData} {kvs : KVs} (h : DnK K G ws (p :: kvs)) : ∃ w ws', ws = w :: ws' ∧ w.1 = keyI p.1 ∧ Dn K G w.2 p.2 ∧ DnK K G ws' kvs := by
  obtain ⟨h1, h2⟩ := h
  cases ws with
  | nil => simp at h1
  | cons w ws =>
    rw [List.map_cons, List.map_cons] at h1
    obtain ⟨a, b⟩ := List.cons.inj h1
    cases h2 with
    | cons c d => exact ⟨w, ws, rfl, a, c, b, d⟩
theorem DnK.inv0 {ws : List (List Key × V)} (h : DnK K G ws []) : ws = [] := by
  have := h.1
  cases ws with
  | nil => rfl
  | cons w ws => simp at this
theorem DnK.len : ∀ {kvs : KVs} {ws : List (List Key × V)}, DnK K G ws kvs → ws.length = kvs.length
  | [], ws, h => by rw [h.inv0]; rfl
  | p :: kvs, ws, h => by
    obtain ⟨w, ws', rfl, _, _, t⟩ := h.inv
    rw [List.length_cons, List.length_cons, t.len]
theorem DnK.mono {G' : Hp} {kvs : KVs} {ws : List (List Key × V)} (h : DnK K G ws kvs) (s : Same G G') : DnK K G' ws kvs := ⟨h.1, h.2.mono s⟩
theorem DnK.val (k : List Int) : ∀ {kvs : KVs} {ws : List (List Key × V)}, DnK K G ws kvs → (valD kvs k = none ∧ valV ws (keyI k) = none) ∨ ∃ x v, valD kvs k = some x ∧ valV ws (keyI k) = some v ∧ Dn K G v x
  | [], ws, h => by rw [h.inv0]; exact .inl ⟨rfl, rfl⟩
  | p :: kvs, ws, h => by
    obtain ⟨w, ws', rfl, e, d, t⟩ := h.inv
    by_cases q : p.1 = k
    · refine .inr ⟨p.2, w.2, by simp [valD, q], ?_, d⟩
      exact valV_pos (by rw [e, q])
    · have q2 : ¬ w.1 = keyI k := fun z => q (keyI_inj (e.symm.trans z))
      have v1 : valD (p :: kvs) k = valD kvs k := by simp [valD, q]
      rw [v1, valV_neg q2]
      exact t.val k
theorem DnK.snoc {k : List Int} {v : V} {x : PyData} (d : Dn K G v x) : ∀ {kvs : KVs} {ws : List (List Key × V)}, DnK K G ws kvs → DnK K G (ws ++ [(keyI k, v)]) (kvs ++ [(k, x)])
  | [], ws, h => by rw [h.inv0]; exact .cons rfl d .nil
  | p :: kvs, ws, h => by
    obtain ⟨w, ws', rfl, e, d', t⟩ := h.inv
    exact .cons e d' (t.snoc d)
theorem DnK.repl {k : List Int} {v : V} {x : PyData} (d : Dn K G v x) : ∀ {kvs : KVs} {ws : List (List Key × V)}, DnK K G ws kvs → DnK K G (ws.map fun w => if w.1 = keyI k then (w.1, v) else w) (kvs.map fun p => if p.1 = k then (p.1, x) else p)
  | [], ws, h => by rw [h.inv0]; exact .nil
  | p :: kvs, ws, h => by
    obtain ⟨w, ws', rfl, e, d', t⟩ := h.inv
    rw [List.map_cons, List.map_cons]
    refine .cons ?_ ?_ (t.repl d)
    · by_cases q : p.1 = k
      · rw [if_pos (by rw [e, q]), if_pos q]; exact e
      · rw [if_neg fun z => q (keyI_inj (e.symm.trans z)), if_neg q]; exact e
    · by_cases q : p.1 = k
      · rw [if_pos (by rw [e, q]), if_pos q]; exact d
      · rw [if_neg fun z => q (keyI_inj (e.symm.trans z)), if_neg q]; exact d'
theorem DnK.any (k : List Int) : ∀ {kvs : KVs} {ws : List (List Key × V)}, DnK K G ws kvs → (ws.any fun w => decide (w.1 = keyI k)) = kvs.any fun p => decide (p.1 = k)
  | [], ws, h => by rw [h.inv0]; rfl
  | p :: kvs, ws, h => by
    obtain ⟨w, ws', rfl, e, _, t⟩ := h.inv
    rw [List.any_cons, List.any_cons, t.any k]
    congr 1
    rw [decide_eq_decide, e]
    exact ⟨keyI_inj, fun q => by rw [q]⟩
theorem DnK.put {k : List Int} {v : V} {x : PyData} {kvs : KVs} {ws : List (List Key × V)} (h : DnK K G ws kvs) (d : Dn K G v x) : DnK K G (putK ws (keyI k) v) (putD kvs k x) := by
  unfold putK putD
  rw [h.any k]
  split
  · exact h.repl d
  · exact h.snoc d
end
def keyOf (x : PyData) (k : List Int → Prop) (_u : Stop k) : Prop := ∃ ns : List Int, x = .tuple (ns.map PyData.int) ∧ k ns
omit [Tb] in
@[simp ↓] theorem keyOf_t (ns : List Int) (k : List Int → Prop) (u : Stop k) : keyOf (.tuple (ns.map PyData.int)) k u = k ns :=
  propext ⟨fun ⟨ms, e, h⟩ => by rw [map_int_inj (PyData.tuple.inj e)]; exact h, fun h => ⟨ns, rfl, h⟩⟩
def odC (o : Option Cell) (k : Addr → KVs → Prop) (_u : Stop k) : Prop := ∃ a kvs, o = some (.od a kvs) ∧ k a kvs
omit [Tb] in
@[simp ↓] theorem odC_od (a : Addr) (kvs : KVs) (k : Addr → KVs → Prop) (u : Stop k) : odC (some (.od a kvs)) k u = k a kvs :=
  propext ⟨fun ⟨b, ks, e, h⟩ => by cases e; exact h, fun h => ⟨a, kvs, rfl, h⟩⟩
def isOd (δ : DS) (i : Nat) : Prop := ∃ a kvs, δ[i]? = some (.od a kvs)
section
variable {X : Cx} {e f : Expr} {pos pos' px : Pos} {x : Str} {i : Nat}
/-- {} -/
def mD : DM := fun δ R => ∀ a, R (.od a []) δ
def wDIn (i : Nat) (w : DE) : DE := fun δ R => w δ fun o δ1 => use o δ1 fun x => keyOf x (fun k => odC δ1[i]? (fun _ kvs => R (.d (.bool (valD kvs k).isSome)) δ1) .mk) .mk
def wDNotIn (i : Nat) (w : DE) : DE := fun δ R => w δ fun o δ1 => use o δ1 fun x => keyOf x (fun k => odC δ1[i]? (fun _ kvs => R (.d (.bool (!(valD kvs k).isSome))) δ1) .mk) .mk
/-- d[k] -/
def wDGet (i : Nat) (w : DE) : DE := fun δ R => isOd δ i ∧ w δ fun o δ1 => use o δ1 fun x => keyOf x (fun k => odC δ1[i]? (fun _ kvs => onS (valD kvs k) (fun y => R (.d y) δ1) .mk) .mk) .mk
/-- d[k] = v -/
def wDPut (i : Nat) (wk wv : DE) : DTS := fun E δ => isOd δ i ∧ wv δ fun o δ1 => lk o δ1 fun x δ2 => wk δ2 fun o2 δ3 => use o2 δ3 fun y => keyOf y (fun k => odC δ3[i]? (fun a kvs => kvs.length ≤ 1000000 ∧ E.nx (δ3.set i (.od a (putD kvs k x)))) .mk) .mk
end
omit [Tb] in
@[simp ↓] theorem mD_ap (δ : DS) (R : Cell → DS → Prop) : mD δ R = ∀ a, R (.od a []) δ := rfl
omit [Tb] in
@[simp ↓] theorem wDIn_ap (i : Nat) (w : DE) (δ : DS) (R : Opd → DS → Prop) : wDIn i w δ R = (w δ fun o δ1 => use o δ1 fun x => keyOf x (fun k => odC δ1[i]? (fun _ kvs => R (.d (.bool (valD kvs k).isSome)) δ1) .mk) .mk) := rfl
omit [Tb] in
@[simp ↓] theorem wDNotIn_ap (i : Nat) (w : DE) (δ : DS) (R : Opd → DS → Prop) : wDNotIn i w δ R = (w δ fun o δ1 => use o δ1 fun x => keyOf x (fun k => odC δ1[i]? (fun _ kvs => R (.d (.bool (!(valD kvs k).isSome))) δ1) .mk) .mk) := rfl
omit [Tb] in
@[simp ↓] theorem wDGet_ap (i : Nat) (w : DE) (δ : DS) (R : Opd → DS → Prop) : wDGet i w δ R = (isOd δ i ∧ w δ fun o δ1 => use o δ1 fun x => keyOf x (fun k => odC δ1[i]? (fun _ kvs => onS (valD kvs k) (fun y => R (.d y) δ1) .mk) .mk) .mk) := rfl
omit [Tb] in
@[simp ↓] theorem wDPut_ap (i : Nat) (wk wv : DE) (E : DEnds) (δ : DS) : wDPut i wk wv E δ = (isOd δ i ∧ wv δ fun o δ1 => lk o δ1 fun x δ2 => wk δ2 fun o2 δ3 => use o2 δ3 fun y => keyOf y (fun k => odC δ3[i]? (fun a kvs => kvs.length ≤ 1000000 ∧ E.nx (δ3.set i (.od a (putD kvs k x)))) .mk) .mk) := rfl
omit [Tb] in
@[simp ↓] theorem isOd_od (a : Addr) (kvs : KVs) (δ : DS) (i : Nat) (h : δ[i]? = some (.od a kvs)) : isOd δ i = True := eq_true ⟨a, kvs, h⟩
omit [Tb] in
@[simp ↓] theorem varC_od (a : Addr) (kvs : KVs) (i : Nat) (k : Opd → Prop) (u : Stop k) : varC (some (.od a kvs)) i k u = k (.s i) := rfl
omit [Tb] in
@[simp] theorem sameIo_od (a : Addr) (xs : KVs) (cs : List Cell) (e : Cell) (δ : DS) : sameIo (.od a xs :: cs) (e :: δ) = ((∃ ys, e = .od a ys) ∧ sameIo cs δ) := rfl
omit [Tb] in
@[simp] theorem outC_od (a : Addr) (xs : KVs) (cs : List Cell) (e : Cell) (δ : DS) : outC (.od a xs :: cs) (e :: δ) = e :: outC cs δ := rfl
end DL
set_option Elab.async false
set_option linter.all false
set_option maxRecDepth 100000
set_option maxHeartbeats 4000000
namespace DL
open PySem PySem.Spec PyProof.Rows L2
variable [Tb]
def pLtT : P2 := fun x y R => match x, y with
  | .int i, .int j => R (.bool (decide (i < j)))
  | .tuple xs, .tuple ys => (noOL xs = true ∧ noOL ys = true) ∧ W.alike (.tuple xs) (.tuple ys) = true ∧ (PyData.tuple xs).depth ≤ 50 ∧ R (.bool (W.dataLt (.tuple xs) (.tuple ys)))
  | _, _ => False
section
variable {X : Cx}
end
omit [Tb] in
@[simp ↓] theorem pLtT_ii (i j : Int) (R : PyData → Prop) : pLtT (.int i) (.int j) R = R (.bool (decide (i < j))) := rfl
omit [Tb] in
@[simp ↓] theorem pLtT_tt (xs ys : List PyData) (R : PyData → Prop) : pLtT (.tuple xs) (.tuple ys) R = ((noOL xs = true ∧ noOL ys = true) ∧ W.alike (.tuple xs) (.tuple ys) = true ∧ (PyData.tuple xs).depth ≤ 50 ∧ R (.bool (W.dataLt (.tuple xs) (.tuple ys)))) := rfl
end DL
set_option Elab.async false
set_option linter.all false
set_option maxRecDepth 100000
set_option maxHeartbeats 4000000
namespace DL
open PySem PySem.Spec PyProof.Rows L2
variable [Tb]
section
variable {X : Cx} {e f : Expr} {pos pos' px : Pos} {x : Str} {i : Nat}
end
end DL
set_option Elab.async false
set_option linter.all false
set_option maxRecDepth 100000
set_option maxHeartbeats 4000000
namespace DL
open PySem PySem.Spec PyProof.Rows L2
variable [Tb]
section
variable {P : Program} {w : World} {K : PySem.W.Frag} {mg : Str → Option Value} {base : Heap}
end
end DL
set_option Elab.async false
set_option linter.all false
set_option maxRecDepth 100000
set_option maxHeartbeats 4000000
namespace DL
open PySem PySem.Spec PyProof.Rows L2
variable [Tb]
def wAugS (i : Nat) (wi : DE) (c : Int) : DTS := fun E δ => isOl δ i ∧ wi δ fun oj δ1 => use oj δ1 fun j => asI j (fun jn => olC δ1[i]? (fun a xs => 0 ≤ jn ∧ onS xs[jn.toNat]? (fun x => asI x (fun m => E.nx (δ1.set i (.ol a (xs.set jn.toNat (.int (m + c)))))) .mk) .mk) .mk) .mk
omit [Tb] in
@[simp ↓] theorem wAugS_ap (i : Nat) (wi : DE) (c : Int) (E : DEnds) (δ : DS) : wAugS i wi c E δ = (isOl δ i ∧ wi δ fun oj δ1 => use oj δ1 fun j => asI j (fun jn => olC δ1[i]? (fun a xs => 0 ≤ jn ∧ onS xs[jn.toNat]? (fun x => asI x (fun m => E.nx (δ1.set i (.ol a (xs.set jn.toNat (.int (m + c)))))) .mk) .mk) .mk) .mk) := rfl
section
variable {X : Cx} {e : Expr} {pos px p1 p2 : Pos} {x : Str} {i : Nat}
end
end DL
set_option Elab.async false
set_option linter.all false
set_option maxRecDepth 100000
set_option maxHeartbeats 4000000
namespace DL
open PySem PySem.Spec PyProof.Rows L2
variable [Tb]
def pLeT : P2 := fun x y R => match x, y with
  | .int i, .int j => R (.bool (decide (i ≤ j)))
  | .tuple xs, .tuple ys => (noOL xs = true ∧ noOL ys = true) ∧ W.alike (.tuple xs) (.tuple ys) = true ∧ (PyData.tuple xs).depth ≤ 50 ∧ R (.bool (!W.dataLt (.tuple ys) (.tuple xs)))
  | _, _ => False
section
variable {X : Cx}
end
omit [Tb] in
@[simp ↓] theorem pLeT_ii (i j : Int) (R : PyData → Prop) : pLeT (.int i) (.int j) R = R (.bool (decide (i ≤ j))) := rfl
omit [Tb] in
@[simp ↓] theorem pLeT_tt (xs ys : List PyData) (R : PyData → Prop) : pLeT (.tuple xs) (.tuple ys) R = ((noOL xs = true ∧ noOL ys = true) ∧ W.alike (.tuple xs) (.tuple ys) = true ∧ (PyData.tuple xs).depth ≤ 50 ∧ R (.bool (!W.dataLt (.tuple ys) (.tuple xs)))) := rfl
end DL
set_option Elab.async false
set_option linter.all false
set_option maxRecDepth 100000
set_option maxHeartbeats 4000000
namespace DL
open PySem PySem.Spec PyProof.Rows L2
variable [Tb]
def wIfL (t : DT) (la lb : DL) : DL := fun δ R => t δ fun k δ1 => if k = true then la δ1 R else lb δ1 R
omit [Tb] in
@[simp ↓] theorem wIfL_ap (t : DT) (la lb : DL) (δ : DS) (R : List PyData → DS → Prop) : wIfL t la lb δ R = (t δ fun k δ1 => if k = true then la δ1 R else lb δ1 R) := rfl
end DL
set_option Elab.async false
set_option linter.all false
set_option maxRecDepth 100000
set_option maxHeartbeats 4000000
namespace DL
open PySem PySem.Spec PyProof.Rows L2
variable [Tb]
open PySem.SeqAt
open AutoSeq1 (wpAny_loadPart')
open MeetsSeq
def IsD (h : Heap) (a : Addr) : Prop := ∃ o es n, h.get? a = some o ∧ o.cls = .type "dict" ∧ o.data = .dict es n
section
variable {A : Around} {s : Shared} {l b : Addr} {es : Array DictEntry} {its : Array Value} {n m : Nat} {dd de : Option Addr} {sl sm : Array (Option Value)}
abbrev DictAt (h : Heap) (l : Addr) (es : Array DictEntry) (n : Nat) (dd : Option Addr) (sl : Array (Option Value)) : Prop := h.get? l = some { cls := .type "dict", dict := dd, data := .dict es n, slots := sl }
abbrev RowAt (T : String) (h : Heap) (b : Addr) (its : Array Value) (m : Nat) (de : Option Addr) (sm : Array (Option Value)) : Prop := h.get? b = some { cls := .type T, dict := de, data := .seq its m, slots := sm }
theorem away_none : Meets (Builtin.«dict.__eq__» ⟨[.ref l, .none], []⟩) (fun _ R z => DictAt z.heap l es n dd sl ∧ R (.ok (.ret .notImplemented)) z) := by
  refine .of_wp fun prog w A R ⟨hp, gs, dr, tk, os⟩ h => ?_
  have away := F.sub_NoneType_dict
  obtain ⟨at_l, h⟩ := h
  wp_walk using wpAny_loadPart' at_l
  exact ⟨_, rfl, h⟩
theorem away_bool (x : Bool) : Meets (Builtin.«dict.__eq__» ⟨[.ref l, .bool x], []⟩) (fun _ R z => DictAt z.heap l es n dd sl ∧ R (.ok (.ret .notImplemented)) z) := by
  refine .of_wp fun prog w A R ⟨hp, gs, dr, tk, os⟩ h => ?_
  have away := F.sub_bool_dict
  obtain ⟨at_l, h⟩ := h
  wp_walk using wpAny_loadPart' at_l
  exact ⟨_, rfl, h⟩
theorem away_int (x : Int) (u : Tok) : Meets (Builtin.«dict.__eq__» ⟨[.ref l, .int x u], []⟩) (fun _ R z => DictAt z.heap l es n dd sl ∧ R (.ok (.ret .notImplemented)) z) := by
  refine .of_wp fun prog w A R ⟨hp, gs, dr, tk, os⟩ h => ?_
  have away := F.sub_int_dict
  obtain ⟨at_l, h⟩ := h
  wp_walk using wpAny_loadPart' at_l
  exact ⟨_, rfl, h⟩
theorem away_str (x : Str) (u : Tok) : Meets (Builtin.«dict.__eq__» ⟨[.ref l, .str x u], []⟩) (fun _ R z => DictAt z.heap l es n dd sl ∧ R (.ok (.ret .notImplemented)) z) := by
  refine .of_wp fun prog w A R ⟨hp, gs, dr, tk, os⟩ h => ?_
  have away := F.sub_str_dict
  obtain ⟨at_l, h⟩ := h
  wp_walk using wpAny_loadPart' at_l
  exact ⟨_, rfl, h⟩
theorem bool_away (x : Bool) : Meets (Builtin.«int.__eq__» ⟨[.bool x, .ref l], []⟩) (fun _ R z => DictAt z.heap l es n dd sl ∧ R (.ok (.ret .notImplemented)) z) := by
  refine .of_wp fun prog w A R ⟨hp, gs, dr, tk, os⟩ h => ?_
  obtain ⟨at_l, h⟩ := h
  wp_walk using wpAny_loadPart' at_l, wpAny_load at_l
  exact ⟨_, rfl, h⟩
theorem int_away (x : Int) (u : Tok) : Meets (Builtin.«int.__eq__» ⟨[.int x u, .ref l], []⟩) (fun _ R z => DictAt z.heap l es n dd sl ∧ R (.ok (.ret .notImplemented)) z) := by
  refine .of_wp fun prog w A R ⟨hp, gs, dr, tk, os⟩ h => ?_
  obtain ⟨at_l, h⟩ := h
  wp_walk using wpAny_loadPart' at_l, wpAny_load at_l
  exact ⟨_, rfl, h⟩
theorem str_away (x : Str) (u : Tok) : Meets (Builtin.«str.__eq__» ⟨[.str x u, .ref l], []⟩) (fun _ R z => DictAt z.heap l es n dd sl ∧ R (.ok (.ret .notImplemented)) z) := by
  refine .of_wp fun prog w A R ⟨hp, gs, dr, tk, os⟩ h => ?_
  obtain ⟨at_l, h⟩ := h
  wp_walk using wpAny_loadPart' at_l, wpAny_load at_l
  exact ⟨_, rfl, h⟩
theorem away_list : Meets (Builtin.«dict.__eq__» ⟨[.ref l, .ref b], []⟩) (fun _ R z => DictAt z.heap l es n dd sl ∧ RowAt "list" z.heap b its m de sm ∧ R (.ok (.ret .notImplemented)) z) := by
  refine .of_wp fun prog w A R ⟨hp, gs, dr, tk, os⟩ h => ?_
  have away := F.sub_list_dict
  obtain ⟨at_l, at_b, h⟩ := h
  wp_walk using wpAny_loadPart' at_l, wpAny_loadPart' at_b
  exact ⟨_, rfl, h⟩
theorem list_away : Meets (Builtin.«list.__eq__» ⟨[.ref b, .ref l], []⟩) (fun _ R z => DictAt z.heap l es n dd sl ∧ RowAt "list" z.heap b its m de sm ∧ R (.ok (.ret .notImplemented)) z) := by
  refine .of_wp fun prog w A R ⟨hp, gs, dr, tk, os⟩ h => ?_
  have away := F.sub_dict_list
  obtain ⟨at_l, at_b, h⟩ := h
  wp_walk using wpAny_loadPart' at_b, wpAny_loadPart' at_l
  exact ⟨_, rfl, h⟩
theorem away_tuple : Meets (Builtin.«dict.__eq__» ⟨[.ref l, .ref b], []⟩) (fun _ R z => DictAt z.heap l es n dd sl ∧ RowAt "tuple" z.heap b its m de sm ∧ R (.ok (.ret .notImplemented)) z) := by
  refine .of_wp fun prog w A R ⟨hp, gs, dr, tk, os⟩ h => ?_
  have away := F.sub_tuple_dict
  obtain ⟨at_l, at_b, h⟩ := h
  wp_walk using wpAny_loadPart' at_l, wpAny_loadPart' at_b
  exact ⟨_, rfl, h⟩
theorem tuple_away : Meets (Builtin.«tuple.__eq__» ⟨[.ref b, .ref l], []⟩) (fun _ R z => DictAt z.heap l es n dd sl ∧ RowAt "tuple" z.heap b its m de sm ∧ R (.ok (.ret .notImplemented)) z) := by
  refine .of_wp fun prog w A R ⟨hp, gs, dr, tk, os⟩ h => ?_
  have away := F.sub_dict_tuple
  obtain ⟨at_l, at_b, h⟩ := h
  wp_walk using wpAny_loadPart' at_b, wpAny_loadPart' at_l
  exact ⟨_, rfl, h⟩
/-- a thing against a dict, where both classes wave the other away -/
theorem differs {v : Value} {T id : String} (at_l : DictAt s.heap l es n dd sl) (ty : s.TypeIs v T) (ne : (Value.type T != Value.type "dict") = true) (sub : isSubtype (.type "dict") (.type T) = pure false) (slot : Slot T (cmpInfo .Eq).2.1 id) (room : A.units < cLine)
    (mine : ∀ (prog : Program) (w : World) (E Q : Value → Shared → Prop), Q .notImplemented s → wpAny (model prog w) A (call (.builtin id) [v, .ref l]) Q E s)
    (dicts : ∀ (prog : Program) (w : World) (E Q : Value → Shared → Prop), Q .notImplemented s → wpAny (model prog w) A (call (.builtin "dict.__eq__") [.ref l, v]) Q E s)
    (same : ∀ (prog : Program) (w : World) (E : Value → Shared → Prop) (Q : Bool → Shared → Prop), Q false s → wpAny (model prog w) A (isSame v (.ref l)) Q E s) : RcAt A s v (.ref l) false :=
  fun prog w E Q h => by
    exact rc_eq_decline_or (k := false) ty ⟨_, at_l, rfl⟩ ne sub slot F.slot_dict_eq_refl (mine prog w E) (dicts prog w E) (same prog w E) (.inr room) h
/-- what is no reference is not the dict itself -/
theorem differs_flat {v : Value} (flat : v = .none ∨ (∃ x, v = .bool x) ∨ (∃ x u, v = .int x u) ∨ ∃ x u, v = .str x u) (rc : RcAt A s v (.ref l) false) : EqAt A s v (.ref l) false := fun prog w E Q h => by
  have go : wpAny (model prog w) A (richCompare .Eq v (.ref l)) (fun r z => wpAny (model prog w) A (truthOfDropped r) Q E z) E s := rc prog w E _ (wpAny_truthy_bool h)
  delta eqBool
  rcases flat with rfl | ⟨_, rfl⟩ | ⟨_, _, rfl⟩ | ⟨_, _, rfl⟩ <;> exact wpAny_holding (wpAny_ite_split (fun e => absurd (eq_of_beq e) nofun) fun _ => wpAny_bind go)
theorem IsD.at {h : Heap} (d : IsD h l) : ∃ dd es n sl, DictAt h l es n dd sl := by
  obtain ⟨⟨_, dd, _, sl⟩, es, n, at_l, rfl, rfl⟩ := d
  exact ⟨dd, es, n, sl, at_l⟩
theorem dict_says {v : Value} {x : Shared} (at_l : DictAt s.heap l es n dd sl) {prog : Program} {w : World} {E Q : Value → Shared → Prop} {S : PySem.Spec} (own : Meets (Builtin.«dict.__eq__» ⟨[.ref l, v], []⟩) S) (h : S A (wants Q E) s) :
    wpAny (model prog w) A (call (.builtin "dict.__eq__") [.ref l, v]) Q E s :=
  call_meets F.slot_dict_eq_refl ⟨_, at_l, rfl⟩ F.entry_dict_eq (F.args_dict_eq_2 _ _) own h
theorem eq_NoneType_dict (d : IsD s.heap l) (room : A.units < cLine) : EqAt A s .none (.ref l) false := by
  obtain ⟨dd, es, n, sl, at_l⟩ := d.at
  exact differs_flat (.inl rfl) (differs at_l (T := "NoneType") rfl (by decide) F.sub_dict_NoneType F.slot_NoneType_eq room (fun _ _ _ _ q => call_gives F.slot_NoneType_eq rfl F.entry_NoneType_eq (F.args_NoneType_eq_2 _ _) (NoneType___eq___none_ref_0 l) q)
    (fun _ _ _ _ q => dict_says (x := s) at_l away_none ⟨at_l, q⟩) fun _ _ _ _ q => wpAny_of_eq (rfl : isSame .none (.ref l) = pure false) q)
theorem eq_bool_dict (x : Bool) (d : IsD s.heap l) (room : A.units < cLine) : EqAt A s (.bool x) (.ref l) false := by
  obtain ⟨dd, es, n, sl, at_l⟩ := d.at
  exact differs_flat (.inr (.inl ⟨_, rfl⟩)) (differs at_l (T := "bool") rfl (by decide) F.sub_dict_bool F.slot_bool_eq room (fun _ _ _ _ q => call_meets F.slot_bool_eq rfl F.entry_int_eq (F.args_int_eq_2 _ _) (bool_away x) ⟨at_l, q⟩)
    (fun _ _ _ _ q => dict_says (x := s) at_l (away_bool x) ⟨at_l, q⟩) fun _ _ _ _ q => wpAny_of_eq (rfl : isSame (.bool x) (.ref l) = pure false) q)
theorem eq_int_dict (x : Int) (u : Tok) (d : IsD s.heap l) (room : A.units < cLine) : EqAt A s (.int x u) (.ref l) false := by
  obtain ⟨dd, es, n, sl, at_l⟩ := d.at
  exact differs_flat (.inr (.inr (.inl ⟨_, _, rfl⟩))) (differs at_l (typeIs_int s x u) (by decide) F.sub_dict_int F.slot_int_eq room (fun _ _ _ _ q => call_meets F.slot_int_eq (typeIs_int s x u) F.entry_int_eq (F.args_int_eq_2 _ _) (int_away x u) ⟨at_l, q⟩)
    (fun _ _ _ _ q => dict_says (x := s) at_l (away_int x u) ⟨at_l, q⟩) fun _ _ _ _ q => wpAny_of_eq (rfl : isSame (.int x u) (.ref l) = pure false) q)
theorem eq_str_dict (x : Str) (u : Tok) (d : IsD s.heap l) (room : A.units < cLine) : EqAt A s (.str x u) (.ref l) false := by
  obtain ⟨dd, es, n, sl, at_l⟩ := d.at
  exact differs_flat (.inr (.inr (.inr ⟨_, _, rfl⟩))) (differs at_l (typeIs_str s x u) (by decide) F.sub_dict_str F.slot_str_eq room (fun _ _ _ _ q => call_meets F.slot_str_eq (typeIs_str s x u) F.entry_str_eq (F.args_str_eq_2 _ _) (str_away x u) ⟨at_l, q⟩)
    (fun _ _ _ _ q => dict_says (x := s) at_l (away_str x u) ⟨at_l, q⟩) fun _ _ _ _ q => wpAny_of_eq (rfl : isSame (.str x u) (.ref l) = pure false) q)
/-- a row and a dict don't lie in one place -/
theorem elsewhere {T : String} (t : T ≠ "dict") (at_b : RowAt T s.heap b its m de sm) (at_l : DictAt s.heap l es n dd sl) : b ≠ l := by
  rintro rfl
  have e := at_b.symm.trans at_l
  simp only [Option.some.injEq, Obj.mk.injEq, Value.type.injEq] at e
  exact t e.1
theorem eq_list_dict (p : s.heap.IsList b its) (d : IsD s.heap l) (room : A.units < cLine) : EqAt A s (.ref b) (.ref l) false := by
  obtain ⟨dd, es, n, sl, at_l⟩ := d.at
  obtain ⟨⟨_, de, _, sm⟩, at_b, rfl, m, rfl⟩ := p
  have apart := elsewhere (T := "list") (by decide) at_b at_l
  exact .of_refs apart (differs at_l ⟨_, at_b, rfl⟩ (by decide) F.sub_dict_list F.slot_list_eq room (fun _ _ _ _ q => call_meets F.slot_list_eq ⟨_, at_b, rfl⟩ F.entry_list_eq (F.args_list_eq_2 _ _) list_away ⟨at_l, at_b, q⟩)
    (fun _ _ _ _ q => dict_says (x := s) at_l away_list ⟨at_l, at_b, q⟩) fun _ _ _ _ q => wpAny_isSame_ref_other' apart at_b at_l (by simp) q)
theorem eq_tuple_dict (p : s.heap.IsTuple b its) (d : IsD s.heap l) (room : A.units < cLine) : EqAt A s (.ref b) (.ref l) false := by
  obtain ⟨dd, es, n, sl, at_l⟩ := d.at
  obtain ⟨⟨_, de, _, sm⟩, at_b, rfl, m, rfl⟩ := p
  have apart := elsewhere (T := "tuple") (by decide) at_b at_l
  exact .of_refs apart (differs at_l ⟨_, at_b, rfl⟩ (by decide) F.sub_dict_tuple F.slot_tuple_eq room (fun _ _ _ _ q => call_meets F.slot_tuple_eq ⟨_, at_b, rfl⟩ F.entry_tuple_eq (F.args_tuple_eq_2 _ _) tuple_away ⟨at_l, at_b, q⟩)
    (fun _ _ _ _ q => dict_says (x := s) at_l away_tuple ⟨at_l, at_b, q⟩) fun _ _ _ _ q => wpAny_isSame_ref_other' apart at_b at_l (by simp) q)
end
end DL
set_option Elab.async false
set_option linter.all false
set_option maxRecDepth 100000
set_option maxHeartbeats 4000000
namespace DL
open PySem PySem.Spec PyProof.Rows L2
variable [Tb]
open PySem.SeqAt
theorem reads_list {h : Heap} {v : Value} {xs : List PyData} {as : List Addr} (r : Reads h v (.list xs) as) : ∃ a vs bs, v = .ref a ∧ h.IsList a vs ∧ vs.size = xs.length ∧ ReadsAll h vs.toList xs bs := by
  cases r with
  | list at_a cl dt rs => exact ⟨_, _, _, rfl, ⟨_, at_a, cl, _, dt⟩, (Array.length_toList).symm.trans (ReadsAll.length _ _ _ rs), rs⟩
theorem reads_tuple {h : Heap} {v : Value} {xs : List PyData} {as : List Addr} (r : Reads h v (.tuple xs) as) : ∃ a vs bs, v = .ref a ∧ h.IsTuple a vs ∧ vs.size = xs.length ∧ ReadsAll h vs.toList xs bs := by
  cases r with
  | tuple at_a cl dt rs => exact ⟨_, _, _, rfl, ⟨_, at_a, cl, _, dt⟩, (Array.length_toList).symm.trans (ReadsAll.length _ _ _ rs), rs⟩
/-- two things of other kinds, or one of them flat; what the library tells already is left to it -/
theorem eqAt_kinds {A : Around} {s : Shared} {a b : Value} {as bs : List Addr} (da db : PyData) (ra : Reads s.heap a da as) (rb : Reads s.heap b db bs) (lay : da.canLay0 = true) (room : A.units < cLine) (new : ¬ db.canLay0 = true)
    (other : (∀ xs ys, ¬ (da = .list xs ∧ db = .list ys)) ∧ ∀ xs ys, ¬ (da = .tuple xs ∧ db = .tuple ys)) : EqAt A s a b (PyData.eqv da db) := by
  cases rb with
  | none => exact absurd rfl new
  | bool => exact absurd rfl new
  | int => exact absurd rfl new
  | str y u => cases ra with
    | none => exact .none_str y u
    | bool x => exact .bool_str x y u
    | int x t => exact .int_str x t y u
    | str x t => exact .str_str x t y u
    | list h1 h2 h3 => exact .list_str y u ⟨_, h1, h2, _, h3⟩ room
    | tuple h1 h2 h3 => exact .tuple_str y u ⟨_, h1, h2, _, h3⟩ room
    | dict => exact absurd lay Bool.false_ne_true
  | list k1 k2 k3 _ => cases ra with
    | none => exact EqAt.none_list ⟨_, k1, k2, _, k3⟩ room
    | bool x => exact EqAt.bool_list x ⟨_, k1, k2, _, k3⟩ room
    | int x t => exact EqAt.int_list x t ⟨_, k1, k2, _, k3⟩ room
    | str x t => exact EqAt.str_list x t ⟨_, k1, k2, _, k3⟩ room
    | tuple h1 h2 h3 => exact EqAt.tuple_list ⟨_, h1, h2, _, h3⟩ ⟨_, k1, k2, _, k3⟩ room
    | list => exact absurd ⟨rfl, rfl⟩ (other.1 _ _)
    | dict => exact absurd lay Bool.false_ne_true
  | tuple k1 k2 k3 _ => cases ra with
    | none => exact EqAt.none_tuple ⟨_, k1, k2, _, k3⟩ room
    | bool x => exact EqAt.bool_tuple x ⟨_, k1, k2, _, k3⟩ room
    | int x t => exact EqAt.int_tuple x t ⟨_, k1, k2, _, k3⟩ room
    | str x t => exact EqAt.str_tuple x t ⟨_, k1, k2, _, k3⟩ room
    | list h1 h2 h3 => exact EqAt.list_tuple ⟨_, h1, h2, _, h3⟩ ⟨_, k1, k2, _, k3⟩ room
    | tuple => exact absurd ⟨rfl, rfl⟩ (other.2 _ _)
    | dict => exact absurd lay Bool.false_ne_true
  | dict k1 k2 k3 => cases ra with
    | none => exact eq_NoneType_dict ⟨_, _, _, k1, k2, k3⟩ room
    | bool x => exact eq_bool_dict x ⟨_, _, _, k1, k2, k3⟩ room
    | int x t => exact eq_int_dict x t ⟨_, _, _, k1, k2, k3⟩ room
    | str x t => exact eq_str_dict x t ⟨_, _, _, k1, k2, k3⟩ room
    | list h1 h2 h3 => exact eq_list_dict ⟨_, h1, h2, _, h3⟩ ⟨_, _, _, k1, k2, k3⟩ room
    | tuple h1 h2 h3 => exact eq_tuple_dict ⟨_, h1, h2, _, h3⟩ ⟨_, _, _, k1, k2, k3⟩ room
    | dict => exact absurd lay Bool.false_ne_true
/-- the items of two rows, pair by pair -/
def Pairwise2 (A : Around) (s : Shared) (vs us : Array Value) (xs ys : List PyData) : Prop := ∀ j (h1 : j < vs.size) (h2 : j < us.size), EqAt A s vs[j] us[j] (pairEq xs ys j)
theorem eqAt_lists {A : Around} {s : Shared} {l l' : Addr} {vs us : Array Value} {xs ys : List PyData} (apart : l ≠ l') (p : s.heap.IsList l vs) (p' : s.heap.IsList l' us) (n : vs.size = xs.length) (n' : us.size = ys.length) (room : A.units < cLine)
    (each : Pairwise2 A.in1 s vs us xs ys) : EqAt A s (.ref l) (.ref l') (PyData.eqvAll xs ys) := by
  refine EqAt.of_refs apart ?_
  by_cases same : xs.length = ys.length
  · have go := RcAt.lists p p' (n.trans (same.trans n'.symm)) room each
    rwa [n, eqvAll_same_length same] at go
  · rw [eqvAll_other_length same]
    exact RcAt.lists_lengths p p' (by rw [n, n']; simpa using same) room
theorem eqAt_tuples {A : Around} {s : Shared} {l l' : Addr} {vs us : Array Value} {xs ys : List PyData} (apart : l ≠ l') (p : s.heap.IsTuple l vs) (p' : s.heap.IsTuple l' us) (n : vs.size = xs.length) (n' : us.size = ys.length) (room : A.units < cLine)
    (each : Pairwise2 A.in1 s vs us xs ys) : EqAt A s (.ref l) (.ref l') (PyData.eqvAll xs ys) := by
  have go := RcAt.tuples p p' room each
  rw [n, n', eqvAll_eq] at go
  exact EqAt.of_refs apart go
/-- .. and where the library tells all, it tells this -/
theorem eqAt_rest {A : Around} {s : Shared} {a b : Value} {as bs : List Addr} {da db : PyData} (ra : Reads s.heap a da as) (rb : Reads s.heap b db bs) (lay : da.canLay0 = true) (room : A.units + da.depth < cLine)
    (other : (∀ xs ys, ¬ (da = .list xs ∧ db = .list ys)) ∧ ∀ xs ys, ¬ (da = .tuple xs ∧ db = .tuple ys)) : EqAt A s a b (PyData.eqv da db) := by
  by_cases told : db.canLay0 = true
  · exact eqAt_reads da db A s a b as bs ra rb lay told (by omega)
  · exact eqAt_kinds da db ra rb lay (by omega) told other
mutual
theorem eqAt_any : ∀ (da db : PyData) {A : Around} {s : Shared} {a b : Value} {as bs : List Addr}, Reads s.heap a da as → Reads s.heap b db bs → da.canLay0 = true → A.units + da.depth < cLine → EqAt A s a b (PyData.eqv da db)
  | .list xs, db, A, s, a, b, as, bs, ra, rb, lay, room => by
    rcases Classical.em (∃ ys, db = .list ys) with ⟨ys, rfl⟩ | no
    · obtain ⟨l, vs, _, rfl, p, n, rs⟩ := reads_list ra
      obtain ⟨l', us, _, rfl, p', n', rs'⟩ := reads_list rb
      by_cases e : l = l'
      · subst e
        cases Reads.unique (.list xs) (.list ys) _ _ _ lay ra rb
        rw [show PyData.eqv (.list xs) (.list xs) = true from eqvAll_refl xs lay]
        exact EqAt.same _
      · rw [PyData.depth] at room
        exact eqAt_lists e p p' n n' (by omega) fun j h1 h2 => eqAt_anys xs ys rs rs' lay (show A.units + 1 + _ < _ by omega) j h1 h2
    · exact eqAt_rest ra rb lay room ⟨fun _ ys z => no ⟨ys, z.2⟩, fun _ _ z => nomatch z.1⟩
  | .tuple xs, db, A, s, a, b, as, bs, ra, rb, lay, room => by
    rcases Classical.em (∃ ys, db = .tuple ys) with ⟨ys, rfl⟩ | no
    · obtain ⟨l, vs, _, rfl, p, n, rs⟩ := reads_tuple ra
      obtain ⟨l', us, _, rfl, p', n', rs'⟩ := reads_tuple rb
      by_cases e : l = l'
      · subst e
        cases Reads.unique (.tuple xs) (.tuple ys) _ _ _ lay ra rb
        rw [show PyData.eqv (.tuple xs) (.tuple xs) = true from eqvAll_refl xs lay]
        exact EqAt.same _
      · rw [PyData.depth] at room
        exact eqAt_tuples e p p' n n' (by omega) fun j h1 h2 => eqAt_anys xs ys rs rs' lay (show A.units + 1 + _ < _ by omega) j h1 h2
    · exact eqAt_rest ra rb lay room ⟨(fun _ _ z => nomatch z.1), fun _ ys z => no ⟨ys, z.2⟩⟩
  | .none, _, _, _, _, _, _, _, ra, rb, lay, room => eqAt_rest ra rb lay room ⟨(fun _ _ z => nomatch z.1), (fun _ _ z => nomatch z.1)⟩
  | .bool _, _, _, _, _, _, _, _, ra, rb, lay, room => eqAt_rest ra rb lay room ⟨(fun _ _ z => nomatch z.1), (fun _ _ z => nomatch z.1)⟩
  | .int _, _, _, _, _, _, _, _, ra, rb, lay, room => eqAt_rest ra rb lay room ⟨(fun _ _ z => nomatch z.1), (fun _ _ z => nomatch z.1)⟩
  | .str _, _, _, _, _, _, _, _, ra, rb, lay, room => eqAt_rest ra rb lay room ⟨(fun _ _ z => nomatch z.1), (fun _ _ z => nomatch z.1)⟩
  | .dict _, _, _, _, _, _, _, _, _, _, lay, _ => nomatch lay
theorem eqAt_anys : ∀ (xs ys : List PyData) {A : Around} {s : Shared} {vs us : List Value} {as bs : List Addr}, ReadsAll s.heap vs xs as → ReadsAll s.heap us ys bs → PyData.canLayAll0 xs = true → A.units + PyData.depthAll xs < cLine →
    ∀ j (h1 : j < vs.length) (h2 : j < us.length), EqAt A s vs[j] us[j] (pairEq xs ys j)
  | [], _, _, _, _, _, _, _, .nil, _, _, _, _, h1, _ => nomatch h1
  | _ :: _, [], _, _, _, _, _, _, _, .nil, _, _, _, _, h2 => nomatch h2
  | x :: xs, y :: ys, _, _, _, _, _, _, .cons r rs, .cons r' rs', lay, room, j, h1, h2 => by
    rw [PyData.canLayAll0, Bool.and_eq_true] at lay
    rw [PyData.depthAll] at room
    cases j with
    | zero => exact eqAt_any x y r r' lay.1 (by omega)
    | succ j => exact eqAt_anys xs ys rs rs' lay.2 (by omega) j (Nat.lt_of_succ_lt_succ h1) (Nat.lt_of_succ_lt_succ h2)
end
/-- x in y, whatever x is -/
def pInX : P2 := fun x y R => match y with
  | .list ds => noO x = true ∧ SeqAt.shaped (.list ds) = true ∧ R (.bool (ds.any fun z => PyData.eqv z x))
  | .tuple ds => noO x = true ∧ SeqAt.shaped (.tuple ds) = true ∧ R (.bool (ds.any fun z => PyData.eqv z x))
  | _ => False
/-- x == () of a tuple, x == [] of a list, whatever lies within -/
def pEqE : P2 := fun x y R => match x, y with
  | .tuple xs, .tuple [] => noOL xs = true ∧ R (.bool xs.isEmpty)
  | .list xs, .list [] => noOL xs = true ∧ R (.bool xs.isEmpty)
  | _, _ => False
def pNeE : P2 := fun x y R => match x, y with
  | .tuple xs, .tuple [] => noOL xs = true ∧ R (.bool (!xs.isEmpty))
  | .list xs, .list [] => noOL xs = true ∧ R (.bool (!xs.isEmpty))
  | _, _ => False
omit [Tb] in
@[simp ↓] theorem pEqE_t (xs : List PyData) (R : PyData → Prop) : pEqE (.tuple xs) (.tuple []) R = (noOL xs = true ∧ R (.bool xs.isEmpty)) := rfl
omit [Tb] in
@[simp ↓] theorem pEqE_l (xs : List PyData) (R : PyData → Prop) : pEqE (.list xs) (.list []) R = (noOL xs = true ∧ R (.bool xs.isEmpty)) := rfl
omit [Tb] in
@[simp ↓] theorem pNeE_t (xs : List PyData) (R : PyData → Prop) : pNeE (.tuple xs) (.tuple []) R = (noOL xs = true ∧ R (.bool (!xs.isEmpty))) := rfl
omit [Tb] in
@[simp ↓] theorem pNeE_l (xs : List PyData) (R : PyData → Prop) : pNeE (.list xs) (.list []) R = (noOL xs = true ∧ R (.bool (!xs.isEmpty))) := rfl
omit [Tb] in
@[simp ↓] theorem pInX_l (x : PyData) (ds : List PyData) (R : PyData → Prop) : pInX x (.list ds) R = (noO x = true ∧ SeqAt.shaped (.list ds) = true ∧ R (.bool (ds.any fun z => PyData.eqv z x))) := rfl
omit [Tb] in
@[simp ↓] theorem pInX_t (x : PyData) (ds : List PyData) (R : PyData → Prop) : pInX x (.tuple ds) R = (noO x = true ∧ SeqAt.shaped (.tuple ds) = true ∧ R (.bool (ds.any fun z => PyData.eqv z x))) := rfl
section
variable {X : Cx}
end
end DL
set_option Elab.async false
set_option linter.all false
set_option maxRecDepth 100000
set_option maxHeartbeats 4000000
namespace DL
open PySem PySem.Spec PyProof.Rows L2
variable [Tb]
def stC (x : PyData) (k : Str → Prop) : Prop := match x with
  | .str z => k z
  | _ => False
omit [Tb] in
@[simp ↓] theorem stC_s (z : Str) (k : Str → Prop) : stC (.str z) k = k z := rfl
def wUpper (w : DE) : DE := fun δ R => w δ fun o δ1 => use o δ1 fun x => stC x fun z => z.length ≤ 1000000 ∧ R (.d (.str (Txt.upper z))) δ1
omit [Tb] in
@[simp ↓] theorem wUpper_ap (w : DE) (δ : DS) (R : Opd → DS → Prop) : wUpper w δ R = (w δ fun o δ1 => use o δ1 fun x => stC x fun z => z.length ≤ 1000000 ∧ R (.d (.str (Txt.upper z))) δ1) := rfl
section
variable {X : Cx}
end
end DL
set_option Elab.async false
set_option linter.all false
set_option maxRecDepth 100000
set_option maxHeartbeats 4000000
namespace DL
open PySem PySem.Spec PyProof.Rows L2
variable [Tb]
section
variable {X : Cx}
/-- x[:0:-1] of a tuple -/
def rev0D (x : PyData) (k : PyData → Prop) : Prop := match x with
  | .tuple ds => 1 ≤ ds.length ∧ k (.tuple (ds.drop 1).reverse)
  | _ => False
omit [Tb] in
@[simp ↓] theorem rev0D_t (ds : List PyData) (k : PyData → Prop) : rev0D (.tuple ds) k = (1 ≤ ds.length ∧ k (.tuple (ds.drop 1).reverse)) := rfl
def wRev0 (w : DE) : DE := fun δ R => w δ fun o δ1 => use o δ1 fun x => rev0D x fun z => R (.d z) δ1
omit [Tb] in
@[simp ↓] theorem wRev0_ap (w : DE) (δ : DS) (R : Opd → DS → Prop) : wRev0 w δ R = (w δ fun o δ1 => use o δ1 fun x => rev0D x fun z => R (.d z) δ1) := rfl
end
def gTL (r : DTGs) : DTG := fun x δ R => match x with
  | .list xs => r xs δ R
  | _ => False
omit [Tb] in
@[simp ↓] theorem gTL_l (r : DTGs) (xs : List PyData) (δ : DS) (R : DS → Prop) : gTL r (.list xs) δ R = r xs δ R := rfl
section
variable {X : Cx} {pos : Pos}
end
section
variable {X : Cx}
end
end DL
set_option Elab.async false
set_option linter.all false
set_option maxRecDepth 100000
set_option maxHeartbeats 4000000
namespace DL
open PySem PySem.Spec PyProof.Rows L2
variable [Tb]
def strsC (x : PyData) (k : List Str → Prop) (_u : Stop k) : Prop := ∃ ys : List Str, x = .list (ys.map PyData.str) ∧ k ys
theorem strs_one {a b : List Str} (h : a.map PyData.str = b.map PyData.str) : a = b :=
  List.map_inj_right (f := PyData.str) (fun _ _ e => PyData.str.inj e) |>.mp h
omit [Tb] in
@[simp ↓] theorem strsC_l (ys : List Str) (k : List Str → Prop) (u : Stop k) : strsC (.list (ys.map PyData.str)) k u = k ys :=
  propext ⟨fun ⟨_, e, h⟩ => strs_one (PyData.list.inj e) ▸ h, fun h => ⟨ys, rfl, h⟩⟩
def wJoinC (a : Str) (w : DE) : DE := fun δ R => w δ fun o δ1 => use o δ1 fun x => strsC x (fun ys => (ys.map (·.length)).sum + ys.length * a.length ≤ 1000000 ∧ R (.d (.str (Txt.join a ys))) δ1) .mk
omit [Tb] in
@[simp ↓] theorem wJoinC_ap (a : Str) (w : DE) (δ : DS) (R : Opd → DS → Prop) : wJoinC a w δ R = (w δ fun o δ1 => use o δ1 fun x => strsC x (fun ys => (ys.map (·.length)).sum + ys.length * a.length ≤ 1000000 ∧ R (.d (.str (Txt.join a ys))) δ1) .mk) := rfl
section
variable {X : Cx}
end
end DL
set_option Elab.async false
set_option linter.all false
set_option maxRecDepth 100000
set_option maxHeartbeats 4000000
namespace DL
open PySem PySem.Spec PyProof.Rows L2
variable [Tb]
def wSplitC (b : Str) (w : DE) : DE := fun δ R => w δ fun o δ1 => use o δ1 fun x => stC x fun z => z.length ≤ 1000000 ∧ R (.d (.list ((Txt.split z b).map PyData.str))) δ1
omit [Tb] in
@[simp ↓] theorem wSplitC_ap (b : Str) (w : DE) (δ : DS) (R : Opd → DS → Prop) : wSplitC b w δ R = (w δ fun o δ1 => use o δ1 fun x => stC x fun z => z.length ≤ 1000000 ∧ R (.d (.list ((Txt.split z b).map PyData.str))) δ1) := rfl
section
variable {X : Cx}
end
end DL
set_option Elab.async false
set_option linter.all false
set_option maxRecDepth 100000
set_option maxHeartbeats 4000000
namespace DL
open PySem PySem.Spec PyProof.Rows L2
variable [Tb]
def signs (z : Str) : List PyData := z.cps.toList.map fun c => .str ⟨#[c]⟩
def iStrD (w : DE) : DL := fun δ R => w δ fun o δ1 => use o δ1 fun x => stC x fun z => z.length ≤ 1000000 ∧ R (signs z) δ1
omit [Tb] in
@[simp ↓] theorem iStrD_ap (w : DE) (δ : DS) (R : List PyData → DS → Prop) : iStrD w δ R = (w δ fun o δ1 => use o δ1 fun x => stC x fun z => z.length ≤ 1000000 ∧ R (signs z) δ1) := rfl
section
variable {X : Cx} {tg : Expr}
end
end DL
set_option Elab.async false
set_option linter.all false
set_option maxRecDepth 100000
set_option maxHeartbeats 4000000
namespace DL
open PySem PySem.Spec PyProof.Rows L2
variable [Tb]
def repS (z : Str) (n : Nat) : Str := ⟨(List.replicate n z.cps).foldl (· ++ ·) #[]⟩
def pMulS : P2 := fun x y R => match x, y with
  | .str z, .int k => (2 ≤ k ∧ k ≤ 1000 ∧ 1 ≤ z.length ∧ z.length ≤ 1000) ∧ R (.str (repS z k.toNat))
  | _, _ => False
omit [Tb] in
@[simp ↓] theorem pMulS_si (z : Str) (k : Int) (R : PyData → Prop) : pMulS (.str z) (.int k) R = ((2 ≤ k ∧ k ≤ 1000 ∧ 1 ≤ z.length ∧ z.length ≤ 1000) ∧ R (.str (repS z k.toNat))) := rfl
section
variable {X : Cx}
end
end DL
set_option Elab.async false
set_option linter.all false
set_option maxRecDepth 100000
set_option maxHeartbeats 4000000
namespace DL
open PySem PySem.Spec PyProof.Rows L2
variable [Tb]
def iRange2W (w : DA) : DL := fun δ R => w δ fun os δ1 => useL os δ1 fun xs => rng2 xs (fun i j => (-1000000000000000000 ≤ i ∧ i ≤ 1000000000000000000 ∧ j - i ≤ 1000000 ∧ -1000000000000000000 ≤ j) ∧ R (nums i (j - i).toNat) δ1) .mk
omit [Tb] in
@[simp ↓] theorem iRange2W_ap (w : DA) (δ : DS) (R : List PyData → DS → Prop) : iRange2W w δ R = (w δ fun os δ1 => useL os δ1 fun xs => rng2 xs (fun i j => (-1000000000000000000 ≤ i ∧ i ≤ 1000000000000000000 ∧ j - i ≤ 1000000 ∧ -1000000000000000000 ≤ j) ∧ R (nums i (j - i).toNat) δ1) .mk) := rfl
end DL
set_option Elab.async false
set_option linter.all false
set_option maxRecDepth 100000
set_option maxHeartbeats 4000000
namespace TW
open PySem PySem.Spec PyProof.Rows L2 DL

mutual
/-- about as long as it is shown -/
def wgt : PyData → Nat
  | .none => 8
  | .bool _ => 8
  | .int i => i.natAbs.log2 + 9
  | .str x => (PyData.shown (.str x)).length
  | .list xs => wgtL xs + 4
  | .tuple xs => wgtL xs + 4
  | .dict _ => 4
def wgtL : List PyData → Nat
  | [] => 0
  | x :: xs => wgt x + 2 + wgtL xs
end
mutual
def okd (z : Bool) : PyData → Bool
  | .none => true
  | .bool _ => true
  | .int i => decide (i.natAbs.log2 < (if z = true then 1900 else 1800))
  | .str x => PyData.strOk x
  | .list xs => okdL z xs
  | .tuple xs => okdL z xs
  | .dict kvs => z && kvs.isEmpty
def okdL (z : Bool) : List PyData → Bool
  | [] => true
  | x :: xs => okd z x && okdL z xs
end
structure Shp (z : Bool) (n w : Nat) (d : PyData) : Prop where
  ok : okd z d = true
  dp : d.depth ≤ n
  wt : wgt d ≤ w
structure ShpL (z : Bool) (n w : Nat) (xs : List PyData) : Prop where
  ok : okdL z xs = true
  dp : PyData.depthAll xs ≤ n
  wt : wgtL xs ≤ w
theorem Shp.mono {z : Bool} {n m w v : Nat} {d : PyData} (h : Shp z n w d) (hn : n ≤ m) (hw : w ≤ v) : Shp z m v d := ⟨h.ok, Nat.le_trans h.dp hn, Nat.le_trans h.wt hw⟩
theorem ShpL.nil {z : Bool} {n : Nat} : ShpL z n 0 [] := ⟨by simp [okdL], by simp [PyData.depthAll], by simp [wgtL]⟩
theorem ShpL.cons {z : Bool} {n w v : Nat} {x : PyData} {xs : List PyData} (h : Shp z n w x) (t : ShpL z n v xs) : ShpL z n (w + 2 + v) (x :: xs) :=
  ⟨by simp [okdL, h.ok, t.ok], by have := h.dp; have := t.dp; simp [PyData.depthAll]; omega, by have := h.wt; have := t.wt; simp only [wgtL]; omega⟩
theorem ShpL.of {z : Bool} {n w : Nat} : ∀ {xs : List PyData}, (∀ x ∈ xs, Shp z n w x) → ShpL z n (xs.length * (w + 2)) xs
  | [], _ => by simpa using ShpL.nil
  | x :: xs, h => by
    have := ShpL.cons (h x (List.mem_cons_self ..)) (ShpL.of fun y hy => h y (List.mem_cons_of_mem _ hy))
    have e : w + 2 + xs.length * (w + 2) = (x :: xs).length * (w + 2) := by rw [List.length_cons, Nat.succ_mul]; omega
    rw [e] at this; exact this
theorem ShpL.map {α : Type} {z : Bool} {n w k : Nat} {as : List α} {f : α → PyData} (h : ∀ a ∈ as, Shp z n w (f a)) (hk : as.length ≤ k) : ShpL z n (k * (w + 2)) (as.map f) := by
  have := ShpL.of (xs := as.map f) (z := z) (n := n) (w := w) fun x hx => by
    obtain ⟨a, ha, rfl⟩ := List.mem_map.mp hx
    exact h a ha
  rw [List.length_map] at this
  exact ⟨this.ok, this.dp, Nat.le_trans this.wt (Nat.mul_le_mul_right _ hk)⟩
theorem ShpL.mono {z : Bool} {n m w v : Nat} {d : List PyData} (h : ShpL z n w d) (hn : n ≤ m) (hw : w ≤ v) : ShpL z m v d := ⟨h.ok, Nat.le_trans h.dp hn, Nat.le_trans h.wt hw⟩
theorem okdL_app {z : Bool} : ∀ (xs ys : List PyData), okdL z (xs ++ ys) = (okdL z xs && okdL z ys)
  | [], ys => by simp [okdL]
  | x :: xs, ys => by simp [okdL, okdL_app xs ys, Bool.and_assoc]
theorem depthAll_app : ∀ (xs ys : List PyData), PyData.depthAll (xs ++ ys) = max (PyData.depthAll xs) (PyData.depthAll ys)
  | [], ys => by simp [PyData.depthAll]
  | x :: xs, ys => by simp only [List.cons_append, PyData.depthAll, depthAll_app xs ys]; omega
theorem wgtL_app : ∀ (xs ys : List PyData), wgtL (xs ++ ys) = wgtL xs + wgtL ys
  | [], ys => by simp [wgtL]
  | x :: xs, ys => by simp [wgtL, wgtL_app xs ys]; omega
theorem ShpL.app {z : Bool} {n w v : Nat} {xs ys : List PyData} (h : ShpL z n w xs) (t : ShpL z n v ys) : ShpL z n (w + v) (xs ++ ys) :=
  ⟨by rw [okdL_app, h.ok, t.ok]; rfl, by rw [depthAll_app]; have := h.dp; have := t.dp; omega, by rw [wgtL_app]; have := h.wt; have := t.wt; omega⟩
theorem Shp.list {z : Bool} {n w : Nat} {xs : List PyData} (h : ShpL z n w xs) : Shp z (n + 1) (w + 4) (.list xs) :=
  ⟨by simp only [okd]; exact h.ok, by simp only [PyData.depth]; have := h.dp; omega, by simp only [wgt]; have := h.wt; omega⟩
theorem Shp.tuple {z : Bool} {n w : Nat} {xs : List PyData} (h : ShpL z n w xs) : Shp z (n + 1) (w + 4) (.tuple xs) :=
  ⟨by simp only [okd]; exact h.ok, by simp only [PyData.depth]; have := h.dp; omega, by simp only [wgt]; have := h.wt; omega⟩
theorem Shp.none {z : Bool} {n : Nat} : Shp z n 8 .none := ⟨by simp [okd], by simp [PyData.depth], by simp [wgt]⟩
theorem Shp.bool {z : Bool} {n : Nat} {b : Bool} : Shp z n 8 (.bool b) := ⟨by simp [okd], by simp [PyData.depth], by simp [wgt]⟩
theorem Shp.intB {z : Bool} {n k : Nat} {i : Int} (h : i.natAbs.log2 ≤ k) (hk : k < 1800) : Shp z n (k + 9) (.int i) := ⟨by simp [okd]; split <;> omega, by simp [PyData.depth], by simp [wgt]; omega⟩
theorem log_le {i : Int} {k : Nat} (h0 : -(2 ^ k) < i) (h1 : i < 2 ^ k) : i.natAbs.log2 ≤ k := by
  by_cases z : i = 0
  · subst z; simp
  · have e : ((2 ^ k : Nat) : Int) = 2 ^ k := by simp
    have : i.natAbs < 2 ^ k := by omega
    have := (Nat.log2_lt (by omega)).mpr this
    omega
theorem Shp.int200 {z : Bool} {n : Nat} {i : Int} (h0 : -(2 ^ 200) < i) (h1 : i < 2 ^ 200) : Shp z n 209 (.int i) := Shp.intB (log_le h0 h1) (by decide)
theorem Shp.str {z : Bool} {n w : Nat} {x : Str} (h : PyData.strOk x = true) (hw : (PyData.shown (.str x)).length ≤ w) : Shp z n w (.str x) := ⟨by simp [okd, h], by simp [PyData.depth], by simp only [wgt]; exact hw⟩
theorem Shp.up {n w : Nat} {d : PyData} (h : Shp false n w d) : Shp true n w d := by
  have a : ∀ xs : List PyData, (∀ x ∈ xs, okd false x = true → okd true x = true) → okdL false xs = true → okdL true xs = true := by
    intro xs
    induction xs with
    | nil => intros; simp [okdL]
    | cons x xs ih =>
      intro h k
      simp only [okdL, Bool.and_eq_true] at k ⊢
      exact ⟨h x (List.mem_cons_self ..) k.1, ih (fun y hy => h y (List.mem_cons_of_mem _ hy)) k.2⟩
  refine ⟨?_, h.dp, h.wt⟩
  have := h.ok
  clear h
  revert this
  exact PyData.rec (motive_1 := fun d => okd false d = true → okd true d = true) (motive_2 := fun xs => okdL false xs = true → okdL true xs = true) (motive_3 := fun _ => True) (motive_4 := fun _ => True)
    (by simp [okd]) (by simp [okd]) (fun i h => by simp [okd] at h ⊢; omega) (by simp [okd]) (fun xs ih h => by simp only [okd] at h ⊢; exact ih h) (fun xs ih h => by simp only [okd] at h ⊢; exact ih h) (fun kvs _ h => by simp [okd] at h)
    (by simp [okdL]) (fun x xs h1 h2 h => by simp only [okdL, Bool.and_eq_true] at h ⊢; exact ⟨h1 h.1, h2 h.2⟩) trivial (fun _ _ _ _ => trivial) (fun _ _ _ _ => trivial) d

theorem okd_lay {z : Bool} (hz : z = false) (d : PyData) : okd z d = true → d.canLay0 = true := by
  subst hz
  exact PyData.rec (motive_1 := fun d => okd false d = true → d.canLay0 = true) (motive_2 := fun xs => okdL false xs = true → PyData.canLayAll0 xs = true) (motive_3 := fun _ => True) (motive_4 := fun _ => True)
    (by simp [PyData.canLay0]) (by simp [PyData.canLay0]) (by simp [PyData.canLay0]) (by simp [okd, PyData.canLay0]) (fun xs ih h => by simp only [okd] at h; simp only [PyData.canLay0]; exact ih h) (fun xs ih h => by simp only [okd] at h; simp only [PyData.canLay0]; exact ih h) (fun kvs _ h => by simp [okd] at h)
    (by simp [PyData.canLayAll0]) (fun x xs h1 h2 h => by simp only [okdL, Bool.and_eq_true] at h; simp only [PyData.canLayAll0, Bool.and_eq_true]; exact ⟨h1 h.1, h2 h.2⟩) trivial (fun _ _ _ _ => trivial) (fun _ _ _ _ => trivial) d
theorem okd_show {z : Bool} (d : PyData) : okd z d = true → d.showable = true := by
  exact PyData.rec (motive_1 := fun d => okd z d = true → d.showable = true) (motive_2 := fun xs => okdL z xs = true → PyData.showableAll xs = true) (motive_3 := fun _ => True) (motive_4 := fun _ => True)
    (by simp [PyData.showable]) (by simp [PyData.showable]) (fun i h => by simp only [okd, decide_eq_true_eq] at h; simp only [PyData.showable, decide_eq_true_eq]; split at h <;> omega) (by simp [PyData.showable]) (fun xs ih h => by simp only [okd] at h; simp only [PyData.showable]; exact ih h) (fun xs ih h => by simp only [okd] at h; simp only [PyData.showable]; exact ih h)
    (fun kvs _ h => by
      simp only [okd, Bool.and_eq_true] at h
      have : kvs = [] := by simpa using h.2
      subst this
      simp [PyData.showable, PyData.showableKv])
    (by simp [PyData.showableAll]) (fun x xs h1 h2 h => by simp only [okdL, Bool.and_eq_true] at h; simp only [PyData.showableAll, Bool.and_eq_true]; exact ⟨h1 h.1, h2 h.2⟩) trivial (fun _ _ _ _ => trivial) (fun _ _ _ _ => trivial) d
def lens (xs : List PyData) : Nat := (xs.map fun x => x.shown.length + 2).sum
theorem piled_lens : ∀ xs : List PyData, piled (xs.map PyData.shown) = lens xs
  | [] => by simp [piled, lens]
  | x :: xs => by
    have := piled_lens xs
    simp only [List.map_cons, piled, lens, List.sum_cons] at *
    omega
theorem textFrom_lens : ∀ (xs : List PyData) (k : Nat) (acc : Str), (textFrom k acc (xs.map PyData.shown)).length ≤ acc.length + lens xs
  | [], k, acc => by simp [textFrom, lens]
  | x :: r, k, acc => by
    have ih := textFrom_lens r (k + 1) (acc ++ (if k > 0 then ", " else "" : String) ++ x.shown)
    have e : (acc ++ (if k > 0 then ", " else "" : String) ++ x.shown).length ≤ acc.length + 2 + x.shown.length := by
      rw [strLen_append, strLen_append]
      split
      · have : ((", " : String) : Str).length = 2 := rfl
        omega
      · have : (("" : String) : Str).length = 0 := rfl
        omega
    show (textFrom (k + 1) _ (r.map PyData.shown)).length ≤ _
    simp only [lens, List.map_cons, List.sum_cons] at ih ⊢
    omega
theorem okd_len {z : Bool} (d : PyData) : okd z d = true → d.shown.length ≤ wgt d := by
  refine PyData.rec (motive_1 := fun d => okd z d = true → d.shown.length ≤ wgt d) (motive_2 := fun xs => okdL z xs = true → lens xs ≤ wgtL xs) (motive_3 := fun _ => True) (motive_4 := fun _ => True)
    ?_ ?_ ?_ ?_ ?_ ?_ ?_ ?_ ?_ trivial (fun _ _ _ _ => trivial) (fun _ _ _ _ => trivial) d
  · intro _; simp only [PyData.shown, wgt]; decide
  · intro b _; cases b <;> (simp only [PyData.shown, wgt]; decide)
  · intro i h
    have := int_text_length_le (show 0 < i.natAbs.log2 + 1 by omega) (show i.natAbs.log2 < i.natAbs.log2 + 1 by omega)
    simp only [PyData.shown, wgt]
    show (Str.ofString (toString i)).length ≤ _
    rw [PySem.ofString_length]
    omega
  · intro x _; simp only [wgt]; exact Nat.le_refl _
  · intro xs ih h
    have ih := ih (by simpa only [okd] using h)
    simp only [PyData.shown, shownAll_map, wgt]
    unfold listText
    rw [strLen_append]
    have q := textFrom_lens xs 0 "["
    have e1 : (("[" : String) : Str).length = 1 := rfl
    have e2 : (("]" : String) : Str).length = 1 := rfl
    omega
  · intro xs ih h
    have ih := ih (by simpa only [okd] using h)
    simp only [PyData.shown, shownAll_map, wgt]
    unfold tupleText
    rw [strLen_append, strLen_append]
    have e1 : (("(" : String) : Str).length = 1 := rfl
    have e2 : ((if (xs.map PyData.shown).length == 1 then ",)" else ")" : String) : Str).length ≤ 2 := by split <;> decide
    have j : (Str.join ", " (xs.map PyData.shown)).length ≤ piled (xs.map PyData.shown) := by
      by_cases z : xs.map PyData.shown = []
      · rw [z]; decide
      · have := join_length_add _ z; omega
    rw [piled_lens] at j
    omega
  · intro kvs _ h
    simp only [okd, Bool.and_eq_true] at h
    have : kvs = [] := by simpa using h.2
    subst this
    simp only [PyData.shown, wgt]
    decide
  · intro _; simp [lens, wgtL]
  · intro x xs h1 h2 h
    simp only [okdL, Bool.and_eq_true] at h
    have h1 := h1 h.1
    have h2 := h2 h.2
    simp only [lens, List.map_cons, List.sum_cons, wgtL] at *
    omega
theorem Shp.shaped {n w : Nat} {d : PyData} (h : Shp false n w d) (hn : n ≤ 60 := by decide) : SeqAt.shaped d = true := by
  have := okd_lay rfl d h.ok
  simp only [SeqAt.shaped, this, Bool.true_and, decide_eq_true_eq]
  have := h.dp
  omega
theorem Shp.repr {z : Bool} {n w : Nat} {d : PyData} {X : Prop} (h : Shp z n w d) (k : X) (hn : n ≤ 60 := by decide) (hw : w ≤ 16000000 := by decide) : d.showable = true ∧ d.depth ≤ 60 ∧ d.shown.length ≤ 16000000 ∧ X :=
  ⟨okd_show d h.ok, Nat.le_trans h.dp hn, Nat.le_trans (okd_len d h.ok) (Nat.le_trans h.wt hw), k⟩
theorem okdL_iff {z : Bool} : ∀ {xs : List PyData}, okdL z xs = true ↔ ∀ x ∈ xs, okd z x = true
  | [] => by simp [okdL]
  | x :: xs => by simp [okdL, okdL_iff (xs := xs)]
theorem depthL_iff {n : Nat} : ∀ {xs : List PyData}, PyData.depthAll xs ≤ n ↔ ∀ x ∈ xs, x.depth ≤ n
  | [] => by simp [PyData.depthAll]
  | x :: xs => by
    simp only [PyData.depthAll, List.forall_mem_cons, ← depthL_iff (xs := xs)]
    omega
theorem wgtL_mem : ∀ {xs : List PyData} {x : PyData}, x ∈ xs → wgt x + 2 ≤ wgtL xs
  | y :: ys, x, h => by
    simp only [wgtL]
    rcases List.mem_cons.mp h with rfl | h
    · omega
    · have := wgtL_mem h; omega
theorem wgtL_take : ∀ (xs : List PyData) (n : Nat), wgtL (xs.take n) ≤ wgtL xs
  | [], n => by simp
  | x :: xs, 0 => by simp [wgtL]
  | x :: xs, n + 1 => by have := wgtL_take xs n; simp only [List.take_succ_cons, wgtL]; omega
theorem wgtL_drop : ∀ (xs : List PyData) (n : Nat), wgtL (xs.drop n) ≤ wgtL xs
  | [], n => by simp
  | x :: xs, 0 => by simp
  | x :: xs, n + 1 => by have := wgtL_drop xs n; simp only [List.drop_succ_cons, wgtL]; omega
theorem ShpL.part {z : Bool} {n w : Nat} {xs ys : List PyData} (h : ShpL z n w xs) (hm : ∀ y ∈ ys, y ∈ xs) (hw : wgtL ys ≤ wgtL xs) : ShpL z n w ys :=
  ⟨okdL_iff.mpr fun y hy => okdL_iff.mp h.ok y (hm y hy), depthL_iff.mpr fun y hy => depthL_iff.mp h.dp y (hm y hy), Nat.le_trans hw h.wt⟩
theorem ShpL.take {z : Bool} {n w : Nat} {xs : List PyData} (h : ShpL z n w xs) (k : Nat) : ShpL z n w (xs.take k) := h.part (fun _ hy => List.mem_of_mem_take hy) (wgtL_take _ _)
theorem ShpL.drop {z : Bool} {n w : Nat} {xs : List PyData} (h : ShpL z n w xs) (k : Nat) : ShpL z n w (xs.drop k) := h.part (fun _ hy => List.mem_of_mem_drop hy) (wgtL_drop _ _)
theorem ShpL.cut {z : Bool} {n w : Nat} {xs : List PyData} (h : ShpL z n w xs) (lo hi : Option Int) : ShpL z n w (DL.cutD xs lo hi) := by
  unfold DL.cutD
  exact (h.drop _).take _
theorem ShpL.mem {z : Bool} {n w : Nat} {xs : List PyData} (h : ShpL z n w xs) {x : PyData} (hx : x ∈ xs) : Shp z n w x :=
  ⟨okdL_iff.mp h.ok x hx, depthL_iff.mp h.dp x hx, by have := wgtL_mem hx; have := h.wt; omega⟩
theorem Shp.items {z : Bool} {n w : Nat} {xs : List PyData} (h : Shp z (n + 1) w (.tuple xs)) : ShpL z n w xs :=
  ⟨by have := h.ok; simpa only [okd] using this, by have := h.dp; simp only [PyData.depth] at this; omega, by have := h.wt; simp only [wgt] at this; omega⟩
theorem Shp.pos {z : Bool} {n w : Nat} {xs : List PyData} (h : Shp z n w (.tuple xs)) : ∃ m, n = m + 1 := by
  have := h.dp
  simp only [PyData.depth] at this
  exact ⟨n - 1, by omega⟩
theorem ShpL.up {n w : Nat} {xs : List PyData} (h : ShpL false n w xs) : ShpL true n w xs :=
  ⟨okdL_iff.mpr fun x hx => (Shp.up (h.mem hx)).ok, h.dp, h.wt⟩
theorem Shp.text {z : Bool} {n k : Nat} {x : Str} (h : PyData.strOk x = true) (hk : x.length ≤ k) : Shp z n (10 * k + 2) (.str x) := by
  refine Shp.str h ?_
  have h2 : ∀ c ∈ x.cps.toList, c < 16 ^ 8 := fun c hc => by
    unfold PyData.strOk at h
    rw [← Array.all_toList, List.all_eq_true] at h
    have := h c hc
    simp only [decide_eq_true_eq] at this
    omega
  have := StrLaws.reprText_len x h2
  simp only [PyData.shown]
  omega
end TW
set_option Elab.async false
set_option linter.all false
set_option maxRecDepth 100000
set_option maxHeartbeats 4000000
namespace TW
open PySem PySem.Spec PyProof.Rows L2 DL
/-- a loop over what is numbered -/
theorem for_enumd {α : Type} {g : DTG} {b : DTS} {δ : DS} {E : DEnds} {u : Stop E} (as : List α) (d : α → PyData) (xs : List PyData) (hx : xs = numbered 0 (as.map d)) (P : Nat → DS → Prop) (h : P 0 δ) (h0 : ∀ δ, P as.length δ → E.nx δ)
    (hs : ∀ (i : Nat) (hi : i < as.length) (x : α) δ, as[i] = x → P i δ → ∀ (K B : DS → Prop) (T : PyData → DS → Prop), (∀ δ', P (i + 1) δ' → K δ') → g (.tuple [.int (i : Int), d x]) δ fun δ1 => b { nx := K, rt := T, bk := B, ct := K } δ1) : forC g b xs δ E u := by
  subst hx
  refine for_inv (fun ys δ' => ∃ i, i ≤ as.length ∧ ys = numbered i ((as.drop i).map d) ∧ P i δ') (fun _ => False) (fun _ _ => False) ⟨0, by omega, by simp, h⟩ ?_ (fun _ h => h.elim) (fun _ _ h => h.elim) ?_
  · rintro δ ⟨i, hi, hb, p⟩
    have : i = as.length := by
      have := congrArg List.length hb
      rw [numbered_len] at this
      simp at this; omega
    subst this
    exact h0 δ p
  · rintro y ys δ ⟨i, hi, hb, p⟩ K B T hK _ _
    have lt : i < as.length := by
      have := congrArg List.length hb
      rw [numbered_len] at this
      simp at this; omega
    rw [List.drop_eq_getElem_cons lt, List.map_cons] at hb
    obtain ⟨rfl, rfl⟩ := List.cons.inj hb
    exact hs i lt _ δ rfl p K B T fun δ' p' => hK δ' ⟨i + 1, by omega, rfl, p'⟩
/-- likewise, with an early return -/
theorem for_enumz {α : Type} {g : DTG} {b : DTS} {δ : DS} {E : DEnds} {u : Stop E} (as : List α) (d : α → PyData) (xs : List PyData) (hx : xs = numbered 0 (as.map d)) (P : Nat → DS → Prop) (Z : PyData → DS → Prop) (h : P 0 δ) (hz : ∀ x δ, Z x δ → E.rt x δ) (h0 : ∀ δ, P as.length δ → E.nx δ)
    (hs : ∀ (i : Nat) (hi : i < as.length) (x : α) δ, as[i] = x → P i δ → ∀ (K B : DS → Prop) (T : PyData → DS → Prop), (∀ δ', P (i + 1) δ' → K δ') → (∀ x δ', Z x δ' → T x δ') → g (.tuple [.int (i : Int), d x]) δ fun δ1 => b { nx := K, rt := T, bk := B, ct := K } δ1) : forC g b xs δ E u := by
  subst hx
  refine for_inv (fun ys δ' => ∃ i, i ≤ as.length ∧ ys = numbered i ((as.drop i).map d) ∧ P i δ') (fun _ => False) Z ⟨0, by omega, by simp, h⟩ ?_ (fun _ h => h.elim) hz ?_
  · rintro δ ⟨i, hi, hb, p⟩
    have : i = as.length := by
      have := congrArg List.length hb
      rw [numbered_len] at this
      simp at this; omega
    subst this
    exact h0 δ p
  · rintro y ys δ ⟨i, hi, hb, p⟩ K B T hK _ hZ
    have lt : i < as.length := by
      have := congrArg List.length hb
      rw [numbered_len] at this
      simp at this; omega
    rw [List.drop_eq_getElem_cons lt, List.map_cons] at hb
    obtain ⟨rfl, rfl⟩ := List.cons.inj hb
    exact hs i lt _ δ rfl p K B T (fun δ' p' => hK δ' ⟨i + 1, by omega, rfl, p'⟩) hZ
end TW
set_option Elab.async false
set_option linter.all false
set_option maxRecDepth 100000
set_option maxHeartbeats 4000000
namespace TW
open PySem PySem.Spec PyProof.Rows L2 DL

def BIG : Int := 2 ^ 4000
theorem BIG_nat : BIG.natAbs = 2 ^ 4000 := by decide +kernel
theorem BIG_ge : 10 ^ 60 ≤ BIG := by decide +kernel
theorem log_big {i : Int} (h : i.natAbs ≤ BIG.natAbs) : i.natAbs.log2 ≤ 4000 := by
  rw [BIG_nat] at h
  by_cases h0 : i.natAbs = 0
  · rw [h0]; decide
  · have : i.natAbs.log2 < 4001 := (Nat.log2_lt h0).mpr (Nat.lt_of_le_of_lt h (Nat.pow_lt_pow_right (by decide) (by decide)))
    omega
theorem abs_big {i : Int} (h0 : -BIG ≤ i) (h1 : i ≤ BIG) : i.natAbs ≤ BIG.natAbs := by
  have := BIG_ge
  omega
theorem mul_big {i j : Int} (h0 : -BIG ≤ i) (h1 : i ≤ BIG) (h2 : -BIG ≤ j) (h3 : j ≤ BIG) : CMul i j ∨ CMulW i j := by
  refine .inr ?_
  have a := log_big (abs_big h0 h1)
  have b := log_big (abs_big h2 h3)
  unfold CMulW
  omega
theorem div_big {j : Int} (h0 : 0 < j) (h1 : j ≤ BIG) : 0 < j ∧ j.natAbs.log2 < 9000 := by
  have b := log_big (abs_big (i := j) (by omega) h1)
  exact ⟨h0, by omega⟩
/-- a side, a number of any use -/
def Pos (x : Int) : Prop := 1 ≤ x ∧ x ≤ BIG
theorem Pos.of {x : Int} (h : 1 ≤ x) (h1 : x ≤ 10 ^ 60) : Pos x := ⟨h, by have := BIG_ge; omega⟩

def gcdI (a b : Int) : Int := (Int.gcd a b : Nat)
theorem gcd_step {x y : Int} : gcdI y (x % y) = gcdI x y := by
  unfold gcdI
  congr 1
  rw [Int.gcd_comm x y]
  have : x % y = x - y * (x / y) := by have := Int.mul_ediv_add_emod x y; omega
  rw [this, Int.gcd_comm, Int.mul_comm, Int.gcd_sub_mul_right_left, Int.gcd_comm]
theorem gcd_le {a b : Int} (ha : 1 ≤ a) : 1 ≤ gcdI a b ∧ gcdI a b ≤ a := by
  have h1 : (Int.gcd a b : Int) ∣ a := Int.gcd_dvd_left ..
  have h0 : 0 < Int.gcd a b := Int.gcd_pos_of_ne_zero_left _ (by omega)
  have := Int.le_of_dvd (by omega) h1
  unfold gcdI
  omega
theorem gcd_dvd_l (a b : Int) : gcdI a b ∣ a := Int.gcd_dvd_left ..
theorem gcd_dvd_r (a b : Int) : gcdI a b ∣ b := Int.gcd_dvd_right ..
theorem gcdI_comm (a b : Int) : gcdI a b = gcdI b a := by unfold gcdI; rw [Int.gcd_comm]
def invGo : Nat → Int → Int → Int → Int → Int
  | 0, _, _, _, later => later
  | f + 1, left, right, now, later => if left > 0 then invGo f (right - right / left * left) left (later - right / left * now) now else later
def invF (a b : Int) : Int := invGo (a % b).toNat.succ (a % b) b 1 0 % b
theorem sub_div (r l : Int) : r - r / l * l = r % l := by have := Int.mul_ediv_add_emod r l; rw [Int.mul_comm l] at this; omega
theorem inv_go {a b : Int} : ∀ (f : Nat) (l r n t : Int), 0 ≤ l → 0 ≤ r → l.toNat < f → b ∣ l - n * a → b ∣ r - t * a → gcdI l r = 1 → b ∣ 1 - invGo f l r n t * a
  | 0, l, r, n, t, _, _, h, _, _, _ => by omega
  | f + 1, l, r, n, t, h0, h1, hf, d1, d2, hg => by
    unfold invGo
    split
    · rename_i hl
      refine inv_go f _ _ _ _ ?_ h0 ?_ ?_ d1 ?_
      · rw [sub_div]; exact Int.emod_nonneg _ (by omega)
      · rw [sub_div]
        have := Int.emod_lt_of_pos r hl
        have := Int.emod_nonneg r (show l ≠ 0 by omega)
        omega
      · have e : r - r / l * l - (t - r / l * n) * a = (r - t * a) - r / l * (l - n * a) := by
          generalize r / l = q
          rw [Int.sub_mul, Int.mul_sub, Int.mul_assoc]; omega
        rw [e]
        exact Int.dvd_sub d2 (Int.dvd_mul_of_dvd_right d1)
      · rw [sub_div, gcdI_comm, gcd_step, gcdI_comm, hg]
    · rename_i hl
      have : l = 0 := by omega
      subst this
      have : r = 1 := by unfold gcdI at hg; simp at hg; omega
      subst this
      exact d2
theorem inv_ok {a b : Int} (hb : 1 ≤ b) (hg : gcdI a b = 1) : 0 ≤ invF a b ∧ invF a b < b ∧ b ∣ 1 - invF a b * a := by
  unfold invF
  refine ⟨Int.emod_nonneg _ (by omega), Int.emod_lt_of_pos _ (by omega), ?_⟩
  have h0 : 0 ≤ a % b := Int.emod_nonneg _ (by omega)
  have h := inv_go (a := a) (b := b) (a % b).toNat.succ (a % b) b 1 0 h0 (by omega) (by omega) ?_ ?_ ?_
  · generalize invGo _ _ _ _ _ = v at h
    have e : 1 - v % b * a = (1 - v * a) + b * (v / b * a) := by
      have := Int.mul_ediv_add_emod v b
      have e2 : v * a = (b * (v / b) + v % b) * a := by rw [this]
      rw [Int.add_mul, Int.mul_assoc] at e2
      omega
    rw [e]
    exact Int.dvd_add h (Int.dvd_mul_right ..)
  · rw [Int.one_mul]
    have : a % b - a = b * (-(a / b)) := by
      have := Int.mul_ediv_add_emod a b
      rw [Int.mul_neg]; omega
    rw [this]; exact Int.dvd_mul_right ..
  · simp
  · rw [gcdI_comm, gcd_step, hg]
def timesF (a b s : Int) : Option Int := if s % gcdI a b ≠ 0 then none else some (s / gcdI a b * invF (a / gcdI a b) (b / gcdI a b) % (b / gcdI a b))
theorem gcd_parts {a b : Int} (ha : 1 ≤ a) : gcdI (a / gcdI a b) (b / gcdI a b) = 1 := by
  have := gcd_le (b := b) ha
  unfold gcdI at this ⊢
  have h := Int.gcd_ediv_gcd_ediv_gcd (i := a) (j := b) (by omega)
  omega
theorem mul_cancel_dvd {g x y : Int} (hg : g ≠ 0) (h : g * x ∣ g * y) : x ∣ y := by
  obtain ⟨k, hk⟩ := h
  exact ⟨k, Int.eq_of_mul_eq_mul_left hg (by rw [hk, Int.mul_assoc])⟩
theorem dvd_of_coprime {a b c : Int} (hb : 1 ≤ b) (hg : gcdI a b = 1) (h : b ∣ a * c) : b ∣ c := by
  obtain ⟨_, _, d⟩ := inv_ok hb hg
  have e : c = (1 - invF a b * a) * c + invF a b * (a * c) := by
    rw [Int.sub_mul, Int.one_mul, Int.mul_assoc]; omega
  rw [e]
  exact Int.dvd_add (Int.dvd_mul_of_dvd_left d) (Int.dvd_mul_of_dvd_right h)
theorem times_none {a b s : Int} : timesF a b s = none ↔ ¬ gcdI a b ∣ s := by
  unfold timesF
  rw [Int.dvd_iff_emod_eq_zero]
  by_cases h : s % gcdI a b = 0 <;> simp [h]
/-- what is told as the least number of times -/
theorem times_some {a b s t : Int} (ha : 1 ≤ a) (hb : 1 ≤ b) (h : timesF a b s = some t) : gcdI a b ∣ s ∧ 0 ≤ t ∧ t < b / gcdI a b ∧ b ∣ s - a * t := by
  unfold timesF at h
  split at h
  · cases h
  rename_i hs
  have hs : gcdI a b ∣ s := Int.dvd_of_emod_eq_zero (by simpa using hs)
  have h := Option.some.inj h
  obtain ⟨g0, g1⟩ := gcd_le (b := b) ha
  have gp := gcd_parts (b := b) ha
  obtain ⟨a', ea⟩ := gcd_dvd_l a b
  obtain ⟨b', eb⟩ := gcd_dvd_r a b
  obtain ⟨s', es⟩ := hs
  generalize gcdI a b = g at *
  have qa : a / g = a' := by rw [ea]; exact Int.mul_ediv_cancel_left _ (by omega)
  have qb : b / g = b' := by rw [eb]; exact Int.mul_ediv_cancel_left _ (by omega)
  have qs : s / g = s' := by rw [es]; exact Int.mul_ediv_cancel_left _ (by omega)
  rw [qa, qb] at gp
  rw [qa, qb, qs] at h
  have hb' : 1 ≤ b' := by
    have : 0 < b' := Int.pos_of_mul_pos_right (a := g) (b := b') (by rw [← eb]; omega) (by omega)
    omega
  obtain ⟨i0, i1, di⟩ := inv_ok hb' gp
  rw [qb]
  refine ⟨⟨s', es⟩, by rw [← h]; exact Int.emod_nonneg _ (by omega), by rw [← h]; exact Int.emod_lt_of_pos _ (by omega), ?_⟩
  rw [ea, eb, es, ← h]
  have e : g * s' - g * a' * (s' * invF a' b' % b') = g * ((1 - invF a' b' * a') * s' + b' * (a' * (s' * invF a' b' / b'))) := by
    have := Int.mul_ediv_add_emod (s' * invF a' b') b'
    generalize s' * invF a' b' / b' = q at *
    generalize s' * invF a' b' % b' = r at *
    have : r = s' * invF a' b' - b' * q := by omega
    rw [this]
    generalize invF a' b' = v
    simp only [Int.mul_sub, Int.mul_add, Int.sub_mul, Int.one_mul, Int.mul_assoc]
    have x1 : g * (a' * (s' * v)) = g * (v * (a' * s')) := by
      rw [Int.mul_comm s' v, Int.mul_left_comm a' v s']
    have x2 : g * (a' * (b' * q)) = g * (b' * (a' * q)) := by rw [Int.mul_left_comm a' b' q]
    omega
  rw [e]
  exact Int.mul_dvd_mul_left g (Int.dvd_add (Int.dvd_mul_of_dvd_left di) (Int.dvd_mul_right ..))
/-- .. and that is the least one -/
theorem times_least {a b s t x : Int} (ha : 1 ≤ a) (hb : 1 ≤ b) (h : timesF a b s = some t) (h0 : 0 ≤ x) (hx : b ∣ s - a * x) : t ≤ x ∧ (b / gcdI a b) ∣ x - t := by
  obtain ⟨hs, t0, t1, dt⟩ := times_some ha hb h
  obtain ⟨g0, g1⟩ := gcd_le (b := b) ha
  have gp := gcd_parts (b := b) ha
  obtain ⟨a', ea⟩ := gcd_dvd_l a b
  obtain ⟨b', eb⟩ := gcd_dvd_r a b
  generalize gcdI a b = g at *
  have qa : a / g = a' := by rw [ea]; exact Int.mul_ediv_cancel_left _ (by omega)
  have qb : b / g = b' := by rw [eb]; exact Int.mul_ediv_cancel_left _ (by omega)
  rw [qa, qb] at gp
  rw [qb] at t1 ⊢
  have hb' : 1 ≤ b' := by omega
  have d : b ∣ a * (x - t) := by
    have := Int.dvd_sub dt hx
    have e : s - a * t - (s - a * x) = a * (x - t) := by rw [Int.mul_sub]; omega
    rwa [e] at this
  rw [ea, eb, Int.mul_assoc] at d
  have d' := dvd_of_coprime hb' gp (mul_cancel_dvd (by omega) d)
  refine ⟨?_, d'⟩
  obtain ⟨k, hk⟩ := d'
  by_cases c : t ≤ x
  · exact c
  · exfalso
    have hk0 : k < 0 := by
      by_cases q : 0 ≤ k
      · have := Int.mul_nonneg (show 0 ≤ b' by omega) q
        omega
      · omega
    have : b' * k ≤ b' * (-1) := Int.mul_le_mul_of_nonneg_left (by omega) (by omega)
    omega
/-- is a side a sum of some of both -/
def isSum (a b s : Int) : Bool := match timesF a b s with
  | some t => decide (a * t ≤ s)
  | none => false
theorem isSum_iff {a b s : Int} (ha : 1 ≤ a) (hb : 1 ≤ b) : isSum a b s = true ↔ ∃ x y : Int, 0 ≤ x ∧ 0 ≤ y ∧ a * x + b * y = s := by
  unfold isSum
  cases h : timesF a b s with
  | none =>
    rw [times_none] at h
    simp only [Bool.false_eq_true, false_iff]
    rintro ⟨x, y, _, _, rfl⟩
    exact h (Int.dvd_add (Int.dvd_mul_of_dvd_left (gcd_dvd_l ..)) (Int.dvd_mul_of_dvd_left (gcd_dvd_r ..)))
  | some t =>
    obtain ⟨hs, t0, t1, dt⟩ := times_some ha hb h
    simp only [decide_eq_true_eq]
    constructor
    · intro hle
      obtain ⟨y, hy⟩ := dt
      refine ⟨t, y, t0, ?_, by omega⟩
      by_cases q : 0 ≤ y
      · exact q
      · have : b * y ≤ b * (-1) := Int.mul_le_mul_of_nonneg_left (by omega) (by omega)
        omega
    · rintro ⟨x, y, hx, hy, rfl⟩
      have q := (times_least ha hb h hx ⟨y, by omega⟩).1
      have := Int.mul_le_mul_of_nonneg_left q (show 0 ≤ a by omega)
      have := Int.mul_nonneg (show 0 ≤ b by omega) hy
      omega
end TW
set_option Elab.async false
set_option linter.all false
set_option maxRecDepth 100000
set_option maxHeartbeats 4000000
namespace TW
open PySem PySem.Spec PyProof.Rows L2 DL

abbrev lI (ns : List Int) : List PyData := ns.map PyData.int
abbrev tI (ns : List Int) : PyData := .tuple (lI ns)
abbrev lN (ns : List Nat) : List PyData := ns.map fun (i : Nat) => PyData.int (i : Int)
abbrev prD (a b : List Int) : PyData := .tuple [tI a, tI b]
/-- the item at a place -/
def gi (ns : List Int) (i : Nat) : Int := ns[i]?.getD 1
theorem gi_at {ns : List Int} {i : Nat} (h : i < ns.length) : ns[i]? = some (gi ns i) := by
  unfold gi; rw [List.getElem?_eq_getElem h]; rfl
theorem gi_mem {ns : List Int} {i : Nat} (h : i < ns.length) : gi ns i ∈ ns := by
  have := gi_at h
  exact List.mem_of_getElem? this
@[simp] theorem gi_cons0 (x : Int) (xs : List Int) : gi (x :: xs) 0 = x := rfl
@[simp] theorem gi_consS (x : Int) (xs : List Int) (i : Nat) : gi (x :: xs) (i + 1) = gi xs i := by simp [gi]
@[simp] theorem gi_cons1 (x : Int) (xs : List Int) : gi (x :: xs) 1 = gi xs 0 := by simp [gi]
theorem range_gi (ns : List Int) : (List.range ns.length).map (gi ns) = ns := by
  apply List.ext_getElem?
  intro i
  by_cases h : i < ns.length
  · rw [List.getElem?_map, List.getElem?_range h, gi_at h]; rfl
  · rw [List.getElem?_eq_none (by simp; omega), List.getElem?_eq_none (by omega)]
theorem numbered_gi (ns : List Int) : numbered 0 (lI ns) = (List.range ns.length).map fun (i : Nat) => .tuple [.int (i : Int), .int (gi ns i)] := by
  rw [numbered_zip]
  apply List.ext_getElem?
  intro i
  by_cases h : i < ns.length
  · have e : ns[i]? = some ns[i] := List.getElem?_eq_getElem h
    rw [List.getElem?_map, List.getElem?_map, List.getElem?_range h, List.getElem?_zipIdx, e]
    have := gi_at h
    rw [e] at this
    simp [Option.some.inj this]
  · rw [List.getElem?_eq_none (by simp; omega), List.getElem?_eq_none (by simp; omega)]
theorem gi_ext {as bs : List Int} (hl : as.length = bs.length) (h : ∀ i, i < as.length → gi as i = gi bs i) : as = bs := by
  rw [← range_gi as, ← range_gi bs, ← hl]
  exact List.map_congr_left fun i hi => h i (List.mem_range.mp hi)
theorem gi_range {n i : Nat} {f : Nat → Int} (h : i < n) : gi ((List.range n).map f) i = f i := by
  have := gi_at (ns := (List.range n).map f) (i := i) (by simpa using h)
  rw [List.getElem?_map, List.getElem?_range h] at this
  exact (Option.some.inj this).symm
theorem fm_map {α β : Type} (p : α → Bool) (f : α → β) (as : List α) : as.filterMap (fun a => if p a = true then some (f a) else none) = (as.filter p).map f := by
  induction as with
  | nil => rfl
  | cons a as ih => by_cases h : p a = true <;> simp [h, ih]
theorem shp_ints {z : Bool} {k L : Nat} {ns : List Int} (hl : ns.length ≤ L) (h : ∀ x ∈ ns, x.natAbs.log2 ≤ k) (hk : k < 1800 := by decide) : ShpL z 0 (L * (k + 9 + 2)) (lI ns) := ShpL.map (fun a ha => Shp.intB (h a ha) hk) hl
theorem shaped_nats (ns : List Nat) : SeqAt.shaped (.list (lN ns)) = true := by
  have := shaped_ints (ns.map fun (i : Nat) => (i : Int))
  rw [List.map_map] at this; exact this
theorem eqv_nats (ns : List Nat) : PyData.eqvAll (lN ns) [] = ns.isEmpty := by
  cases ns <;> simp [PyData.eqvAll]
theorem shaped_nil : SeqAt.shaped (.list []) = true := by decide
theorem nums_succ (lo : Int) (n : Nat) : nums lo (n + 1) = .int lo :: nums (lo + 1) n := by
  rw [nums_map, nums_map, List.range_succ_eq_map, List.map_cons, List.map_map]
  congr 1
  · simp
  · apply List.map_congr_left; intro i _; simp; omega
theorem for_cntZ {g : DTG} {b : DTS} {δ : DS} {E : DEnds} {u : Stop E} (lo : Int) (n : Nat) (P : Nat → DS → Prop) (Q : DS → Prop) (Z : PyData → DS → Prop) (h : P 0 δ) (h0 : ∀ δ, P n δ → E.nx δ) (hq : ∀ δ, Q δ → E.nx δ) (hz : ∀ x δ, Z x δ → E.rt x δ)
    (hs : ∀ i δ, i < n → P i δ → ∀ (K B : DS → Prop) (T : PyData → DS → Prop), (∀ δ', P (i + 1) δ' → K δ') → (∀ δ', Q δ' → B δ') → (∀ x δ', Z x δ' → T x δ') → g (.int (lo + (i : Int))) δ fun δ1 => b { nx := K, rt := T, bk := B, ct := K } δ1) : forC g b (nums lo n) δ E u := by
  refine for_inv (fun xs δ => ∃ i, i ≤ n ∧ xs = nums (lo + (i : Int)) (n - i) ∧ P i δ) Q Z ⟨0, by omega, by simp, h⟩ ?_ hq hz ?_
  · rintro δ ⟨i, hi, hx, hp⟩
    have : i = n := by
      have := congrArg List.length hx
      simp [nums] at this; omega
    subst this
    exact h0 δ hp
  · rintro x xs δ ⟨i, hi, hx, hp⟩ K B T hK hB hT
    have hlt : i < n := by
      have := congrArg List.length hx
      simp [nums] at this; omega
    rw [show n - i = (n - i - 1) + 1 by omega, nums_succ, List.cons.injEq] at hx
    obtain ⟨rfl, rfl⟩ := hx
    refine hs i δ hlt hp K B T (fun δ' hp' => hK δ' ⟨i + 1, by omega, ?_, hp'⟩) hB hT
    congr 1
    omega
theorem for_cnt {g : DTG} {b : DTS} {δ : DS} {E : DEnds} {u : Stop E} (lo : Int) (n : Nat) (P : Nat → DS → Prop) (h : P 0 δ) (h0 : ∀ δ, P n δ → E.nx δ)
    (hs : ∀ i δ, i < n → P i δ → ∀ (K B : DS → Prop) (T : PyData → DS → Prop), (∀ δ', P (i + 1) δ' → K δ') → g (.int (lo + (i : Int))) δ fun δ1 => b { nx := K, rt := T, bk := B, ct := K } δ1) : forC g b (nums lo n) δ E u :=
  for_cntZ lo n P (fun _ => False) (fun _ _ => False) h h0 (fun _ h => h.elim) (fun _ _ h => h.elim) fun i δ hi hp K B T hK _ _ => hs i δ hi hp K B T hK
/-- a loop through which one thing stays so (never left) -/
theorem for_stay {g : DTG} {b : DTS} {δ : DS} {E : DEnds} {u : Stop E} {xs : List PyData} (P : DS → Prop) (h : P δ) (h0 : ∀ δ, P δ → E.nx δ)
    (hs : ∀ x ∈ xs, ∀ δ, P δ → ∀ (K B : DS → Prop) (T : PyData → DS → Prop), (∀ δ', P δ' → K δ') → g x δ fun δ1 => b { nx := K, rt := T, bk := B, ct := K } δ1) : forC g b xs δ E u :=
  for_inv (fun ys δ => (∀ y ∈ ys, y ∈ xs) ∧ P δ) (fun _ => False) (fun _ _ => False) ⟨fun _ h => h, h⟩ (fun δ h => h0 δ h.2) (fun _ h => h.elim) (fun _ _ h => h.elim) fun x ys δ h K B T hK _ _ =>
    hs x (h.1 x (List.mem_cons_self ..)) δ h.2 K B T fun δ' hp => hK δ' ⟨fun y hy => h.1 y (List.mem_cons_of_mem _ hy), hp⟩
theorem com_nil {g : DTG} {t : DT} {e : DE} {vs : List Nat} {acc : List PyData} {δ : DS} {R : List PyData → DS → Prop} {u : Stop R} : comC g t e vs [] acc δ R u = R acc δ := rfl
theorem com_cons {g : DTG} {t : DT} {e : DE} {vs : List Nat} {x : PyData} {xs acc : List PyData} {δ : DS} {R : List PyData → DS → Prop} {u : Stop R} : comC g t e vs (x :: xs) acc δ R u =
  (g x δ fun δ1 => t δ1 fun b δ2 => if b = true then e δ2 fun o δ3 => lk o δ3 fun y δ4 => comC g t e vs xs (acc ++ [y]) (wipeD δ4 vs) R .mk else comC g t e vs xs acc (wipeD δ2 vs) R .mk) := rfl
/-- the item at a place -/
def gd (ds : List PyData) (i : Nat) : PyData := ds[i]?.getD .none
end TW
set_option Elab.async false
set_option linter.all false
set_option maxRecDepth 100000
set_option maxHeartbeats 4000000
namespace TW
open PySem PySem.Spec PyProof.Rows L2 DL
def sp_common : DSp := fun cs R => ∃ a b, cs = [.d (.int a), .d (.int b)] ∧ 0 ≤ a ∧ 0 ≤ b ∧ R (.int (gcdI a b)) cs
def sp_inverse : DSp := fun cs R => ∃ a b, cs = [.d (.int a), .d (.int b)] ∧ Pos b ∧ R (.int (invF a b)) cs
def optI : Option Int → PyData
  | some x => .int x
  | none => .none
@[simp] theorem optI_some (x : Int) : optI (some x) = .int x := rfl
@[simp] theorem optI_none : optI none = .none := rfl
def sp_least_times : DSp := fun cs R => ∃ a b s, cs = [.d (.int a), .d (.int b), .d (.int s)] ∧ Pos a ∧ Pos b ∧ -BIG ≤ s ∧ s ≤ BIG ∧ R (optI (timesF a b s)) cs
/-- the axes that are not divided -/
def restsF (br bx : List Int) : List Nat := (List.range bx.length).filter fun i => !decide (gi bx i % gi br i = 0)
/-- a pair and a box of one kind -/
structure PB (a b bx : List Int) : Prop where
  la : a.length = bx.length
  lb : b.length = bx.length
  l0 : 0 < bx.length
  l1 : bx.length ≤ 10
  pa : ∀ x ∈ a, Pos x
  pb : ∀ x ∈ b, Pos x
  px : ∀ x ∈ bx, Pos x
/-- is a box filled -/
def fillB (a b bx : List Int) : Bool :=
  (restsF a bx).isEmpty || (restsF b bx).isEmpty || (decide (restsF a bx = restsF b bx) && decide ((restsF a bx).length = 1) && isSum (gi a ((restsF a bx).headD 0)) (gi b ((restsF a bx).headD 0)) (gi bx ((restsF a bx).headD 0)))
def w_common_1 : DTS := (wPar2 0 1 (msCons (mE (wVar 1)) (msCons (mE (wOp pMod (wVar 0) (wVar 1))) msNil)))
def w_common : DTS := (wSeq (wWhile (wB (wOp pGt (wVar 1) (wC (.int 0)))) w_common_1) (wRet (wVar 0)))
def w_inverse_s1 : DTS := (wPar2 4 5 (msCons (mE (wOp pSubB (wVar 5) (wOp pMulT (wVar 6) (wVar 4)))) (msCons (mE (wVar 4)) msNil)))
@[simp ↓] theorem w_inverse_s1_ap (E : DEnds) (δ : DS) : w_inverse_s1 E δ = (wPar2 4 5 (msCons (mE (wOp pSubB (wVar 5) (wOp pMulT (wVar 6) (wVar 4)))) (msCons (mE (wVar 4)) msNil))) E δ := rfl
def w_inverse_s2 : DTS := (wSeq (wPar2 2 3 (msCons (mE (wOp pSubB (wVar 3) (wOp pMulT (wVar 6) (wVar 2)))) (msCons (mE (wVar 2)) msNil))) w_inverse_s1)
@[simp ↓] theorem w_inverse_s2_ap (E : DEnds) (δ : DS) : w_inverse_s2 E δ = (wSeq (wPar2 2 3 (msCons (mE (wOp pSubB (wVar 3) (wOp pMulT (wVar 6) (wVar 2)))) (msCons (mE (wVar 2)) msNil))) w_inverse_s1) E δ := rfl
def w_inverse_1 : DTS := (wSeq (wSet 6 (mE (wOp pDiv (wVar 3) (wVar 2)))) w_inverse_s2)
def w_inverse_s3 : DTS := (wSeq (wWhile (wB (wOp pGt (wVar 2) (wC (.int 0)))) w_inverse_1) (wRet (wOp pMod (wVar 5) (wVar 1))))
@[simp ↓] theorem w_inverse_s3_ap (E : DEnds) (δ : DS) : w_inverse_s3 E δ = (wSeq (wWhile (wB (wOp pGt (wVar 2) (wC (.int 0)))) w_inverse_1) (wRet (wOp pMod (wVar 5) (wVar 1)))) E δ := rfl
def w_inverse : DTS := (wSeq (wAsgG (wTup (wCons (wOp pMod (wVar 0) (wVar 1)) (wCons (wVar 1) (wCons (wC (.int 1)) (wCons (wC (.int 0)) wNil))))) (gT (gsCons (gN 2) (gsCons (gN 3) (gsCons (gN 4) (gsCons (gN 5) gsNil)))))) w_inverse_s3)
def w_least_times_t1 : DTS := (wRet (wOp pMod (wOp pMulT (wOp pDiv (wVar 2) (wVar 3)) (wCall [] sp_inverse (wCons (wOp pDiv (wVar 0) (wVar 3)) (wCons (wOp pDiv (wVar 1) (wVar 3)) wNil)))) (wOp pDiv (wVar 1) (wVar 3))))
def w_least_times_s1 : DTS := (wSeq (wIf (wB (wOp pNe (wOp pMod (wVar 2) (wVar 3)) (wC (.int 0)))) (wRet (wC .none)) wNext) w_least_times_t1)
@[simp ↓] theorem w_least_times_s1_ap (E : DEnds) (δ : DS) : w_least_times_s1 E δ = (wSeq (wIf (wB (wOp pNe (wOp pMod (wVar 2) (wVar 3)) (wC (.int 0)))) (wRet (wC .none)) wNext) w_least_times_t1) E δ := rfl
def w_least_times : DTS := (wSeq (wSet 3 (mE (wCall [] sp_common (wCons (wVar 0) (wCons (wVar 1) wNil))))) w_least_times_s1)
theorem ln_common : ∀ cs R, sp_common cs R → cs.length = 2 := by
  intro cs R h
  unfold sp_common at h
  repeat (obtain ⟨_, h⟩ := h)
  subst_vars; rfl
theorem ln_inverse : ∀ cs R, sp_inverse cs R → cs.length = 2 := by
  intro cs R h
  unfold sp_inverse at h
  repeat (obtain ⟨_, h⟩ := h)
  subst_vars; rfl
theorem ln_least_times : ∀ cs R, sp_least_times cs R → cs.length = 3 := by
  intro cs R h
  unfold sp_least_times at h
  repeat (obtain ⟨_, h⟩ := h)
  subst_vars; rfl
end TW
set_option Elab.async false
set_option linter.all false
set_option maxRecDepth 100000
set_option maxHeartbeats 4000000
namespace TW
open PySem PySem.Spec PyProof.Rows L2 DL
theorem rd_common : ∀ cs R, sp_common cs R → w_common (endsOf cs R) (start0 2 cs) := by
  rintro _ R ⟨a, b, rfl, ha, hb, hR⟩
  simp -implicitDefEqProofs -dsimp [w_common]
  refine while_plain (fun m δ => ∃ x y : Int, δ = [.d (.int x), .d (.int y)] ∧ 0 ≤ y ∧ 0 ≤ x ∧ y.toNat = m ∧ gcdI x y = gcdI a b) (fun δ => ∃ c1, δ = [.d (.int (gcdI a b)), .d c1]) b.toNat ⟨a, b, rfl, hb, ha, rfl, rfl⟩ ?_ ?_
  · rintro δ ⟨c1, rfl⟩
    (try simp -implicitDefEqProofs -dsimp)
    exact hR
  · rintro m δ ⟨x, y, rfl, h0, h1, rfl, hg⟩ K N T hK hN
    (try simp -implicitDefEqProofs -dsimp)
    split
    · rename_i hy
      simp -implicitDefEqProofs -dsimp [w_common_1]
      refine ⟨hy, hK (x % y).toNat _ ?_ ⟨y, x % y, rfl, Int.emod_nonneg _ (by omega), by omega, rfl, ?_⟩⟩
      · have := Int.emod_lt_of_pos x hy
        have := Int.emod_nonneg x (show y ≠ 0 by omega)
        omega
      · rw [gcd_step, hg]
    · rename_i hy
      have : y = 0 := by omega
      subst this
      have e : gcdI x 0 = x := by unfold gcdI; simp; omega
      refine hN _ ⟨.int 0, ?_⟩
      rw [← hg, e]
theorem abs_mul_le {q n : Int} (hq : 0 ≤ q) : (q * n).natAbs = q.toNat * n.natAbs := by
  rw [Int.natAbs_mul]; congr 1; omega
theorem rd_inverse : ∀ cs R, sp_inverse cs R → w_inverse (endsOf cs R) (start0 7 cs) := by
  rintro _ R ⟨a, b, rfl, ⟨hb0, hb1⟩, hR⟩
  have l0 : 0 ≤ a % b := Int.emod_nonneg _ (by omega)
  have l1 : a % b < b := Int.emod_lt_of_pos _ (by omega)
  simp -implicitDefEqProofs -dsimp [w_inverse]
  refine ⟨by omega, ?_⟩
  refine while_plain (fun m δ => ∃ (l r n t : Int) (c6 : Cell) (f : Nat), δ = [.d (.int a), .d (.int b), .d (.int l), .d (.int r), .d (.int n), .d (.int t), c6] ∧ 0 ≤ l ∧ 0 < r ∧ l < r ∧ r ≤ b ∧ n.natAbs * r.toNat + t.natAbs * l.toNat ≤ b.toNat ∧ l.toNat = m ∧ m < f ∧ invGo f l r n t = invGo (a % b).toNat.succ (a % b) b 1 0) (fun δ => ∃ c2 c3 c4 c6, δ = [.d (.int a), .d (.int b), c2, c3, c4, .d (.int (invGo (a % b).toNat.succ (a % b) b 1 0)), c6]) (a % b).toNat ⟨_, _, _, _, _, _, rfl, l0, by omega, by omega, by omega, by simp, rfl, by omega, rfl⟩ ?_ ?_
  · rintro δ ⟨c2, c3, c4, c6, rfl⟩
    (try simp -implicitDefEqProofs -dsimp)
    exact ⟨by omega, hR⟩
  · rintro m δ ⟨l, r, n, t, c6, f, rfl, h0, h1, h2, h3, h4, rfl, hf, hg⟩ K N T hK hN
    (try simp -implicitDefEqProofs -dsimp)
    obtain ⟨f, rfl⟩ : ∃ f', f = f' + 1 := ⟨f - 1, by omega⟩
    split
    · rename_i hl
      have q0 : 0 ≤ r / l := Int.ediv_nonneg (by omega) h0
      have q1 : r / l ≤ r := Int.ediv_le_self _ (by omega)
      have m0 := Int.emod_nonneg r (show l ≠ 0 by omega)
      have m1 := Int.emod_lt_of_pos r hl
      have e := sub_div r l
      have nb : n.natAbs ≤ b.toNat := by
        have : n.natAbs * 1 ≤ n.natAbs * r.toNat := Nat.mul_le_mul_left _ (by omega)
        omega
      have B := BIG_ge
      simp -implicitDefEqProofs -dsimp [w_inverse_1]
      refine ⟨div_big hl (by omega), mul_big (by omega) (by omega) (by omega) (by omega), mul_big (by omega) (by omega) (by omega) (by omega), hK (r % l).toNat _ (by omega) ⟨r - r / l * l, l, t - r / l * n, n, _, f, rfl, by omega, by omega, by omega, by omega, ?_, by rw [e], by omega, ?_⟩⟩
      · rw [e]
        have d1 : (t - r / l * n).natAbs ≤ t.natAbs + (r / l).toNat * n.natAbs := by
          have := abs_mul_le (n := n) q0
          omega
        have d2 := Nat.mul_le_mul_right l.toNat d1
        have d3 : r.toNat = l.toNat * (r / l).toNat + (r % l).toNat := by
          have := Int.mul_ediv_add_emod r l
          have h5 : ((l.toNat * (r / l).toNat : Nat) : Int) = l * (r / l) := by
            rw [Int.natCast_mul, Int.toNat_of_nonneg h0, Int.toNat_of_nonneg q0]
          omega
        have d4 : (t.natAbs + (r / l).toNat * n.natAbs) * l.toNat = t.natAbs * l.toNat + n.natAbs * (l.toNat * (r / l).toNat) := by
          rw [Nat.add_mul]
          congr 1
          rw [Nat.mul_comm (r / l).toNat, Nat.mul_assoc, Nat.mul_comm (r / l).toNat]
        have d5 : n.natAbs * r.toNat = n.natAbs * (l.toNat * (r / l).toNat) + n.natAbs * (r % l).toNat := by
          rw [d3, Nat.mul_add]
        omega
      · rw [← hg]
        show _ = if l > 0 then _ else _
        rw [if_pos hl]
    · rename_i hl
      have e : invGo (f + 1) l r n t = t := by
        show (if l > 0 then _ else _) = _
        rw [if_neg hl]
      rw [e] at hg
      exact hN _ ⟨_, _, _, _, by rw [hg]⟩
theorem gcd_div_pos {a b : Int} (ha : Pos a) (x : Int) (hd : gcdI a b ∣ x) (hx : Pos x) : Pos (x / gcdI a b) := by
  obtain ⟨g0, g1⟩ := gcd_le (b := b) ha.1
  obtain ⟨x0, x1⟩ := hx
  have e := Int.ediv_mul_cancel hd
  have l := Int.ediv_le_self (gcdI a b) (show 0 ≤ x by omega)
  have n := Int.ediv_nonneg (show 0 ≤ x by omega) (show 0 ≤ gcdI a b by omega)
  refine ⟨?_, by omega⟩
  have : x / gcdI a b ≠ 0 := fun z => by rw [z] at e; omega
  omega
theorem ediv_abs {x g : Int} (hg : 1 ≤ g) (h0 : -BIG ≤ x) (h1 : x ≤ BIG) : -BIG ≤ x / g ∧ x / g ≤ BIG := by
  have B := BIG_ge
  by_cases c : 0 ≤ x
  · have l := Int.ediv_le_self g c
    have n := Int.ediv_nonneg c (show 0 ≤ g by omega)
    omega
  · have n : x / g < 0 := Int.ediv_neg_of_neg_of_pos (by omega) (by omega)
    have : x ≤ x / g := by
      rw [Int.le_ediv_iff_mul_le (by omega)]
      have := Int.mul_le_mul_of_nonpos_left (show x ≤ 0 by omega) (show (1 : Int) ≤ g by omega)
      omega
    omega
theorem rd_least_times : ∀ cs R, sp_least_times cs R → w_least_times (endsOf cs R) (start0 4 cs) := by
  rintro _ R ⟨a, b, s, rfl, ha, hb, hs0, hs1, hR⟩
  obtain ⟨g0, g1⟩ := gcd_le (b := b) ha.1
  have qa := gcd_div_pos (b := b) ha a (gcd_dvd_l a b) ha
  have qb := gcd_div_pos (b := b) ha b (gcd_dvd_r a b) hb
  obtain ⟨i0, i1, _⟩ := inv_ok qb.1 (gcd_parts (b := b) ha.1)
  obtain ⟨a0, a1⟩ := ha
  obtain ⟨b0, b1⟩ := hb
  simp -implicitDefEqProofs -dsimp [w_least_times]
  refine ask_of ⟨a, b, rfl, by omega, by omega, ?_⟩
  (try simp -implicitDefEqProofs -dsimp)
  refine ⟨by omega, ?_⟩
  have lg := (div_big (j := gcdI a b) (by omega) (by omega)).2
  unfold timesF at hR
  split
  · rename_i h
    rw [if_neg (by simpa using h)] at hR
    simp -implicitDefEqProofs -dsimp [w_least_times_t1, lg]
    refine ⟨by omega, ask_of ⟨_, _, rfl, qb, ?_⟩⟩
    simp -implicitDefEqProofs -dsimp [lg]
    have := ediv_abs g0 hs0 hs1
    have B := BIG_ge
    have := qb.2
    exact ⟨mul_big (by omega) (by omega) (by omega) (by omega), by omega, by have := qb.1; omega, hR⟩
  · rename_i h
    rw [if_pos (by simpa using h)] at hR
    exact hR
theorem PB.at {a b bx : List Int} (h : PB a b bx) {i : Nat} (hi : i < bx.length) : a[i]? = some (gi a i) ∧ b[i]? = some (gi b i) ∧ bx[i]? = some (gi bx i) ∧ Pos (gi a i) ∧ Pos (gi b i) ∧ Pos (gi bx i) :=
  have ha : i < a.length := by have := h.la; omega
  have hb : i < b.length := by have := h.lb; omega
  ⟨gi_at ha, gi_at hb, gi_at hi, h.pa _ (gi_mem ha), h.pb _ (gi_mem hb), h.px _ (gi_mem hi)⟩
theorem times_big {a b s t : Int} (ha : Pos a) (hb : Pos b) (h : timesF a b s = some t) : 0 ≤ t ∧ t ≤ BIG := by
  obtain ⟨_, t0, t1, _⟩ := times_some ha.1 hb.1 h
  obtain ⟨g0, _⟩ := gcd_le (b := b) ha.1
  have := Int.ediv_le_self (gcdI a b) (show 0 ≤ b by have := hb.1; omega)
  have := hb.2
  omega
theorem mem_rests {a bx : List Int} {i : Nat} : i ∈ restsF a bx ↔ i < bx.length ∧ gi bx i % gi a i ≠ 0 := by
  unfold restsF
  rw [List.mem_filter, List.mem_range]; simp
theorem rests_nodup (a bx : List Int) : (restsF a bx).Nodup := List.Pairwise.filter _ List.nodup_range
end TW
set_option Elab.async false
set_option linter.all false
set_option maxRecDepth 100000
set_option maxHeartbeats 4000000
namespace TW
open PySem PySem.Spec PyProof.Rows L2 DL
abbrev sp_Ldeck : DSpM := spDeck
abbrev sp_Ldraw : DSp := spDraw
def In (m : Int) (ns : List Int) : Prop := ∀ x ∈ ns, 1 ≤ x ∧ x ≤ m
def sp_Lone : DSp := fun cs R => ∃ a b c d xs, cs = [.dk a b c, .d d] ∧ seqOf d = some xs ∧ 0 < xs.length ∧ xs.length ≤ 1000000 ∧ ∀ x ∈ xs, R x [.dk a b c, .d d]
def sp_Lsides : DSp := fun cs R => ∃ a b c n m, cs = [.dk a b c, .d (.int n), .d (.int m)] ∧ 0 ≤ n ∧ n ≤ 1000 ∧ 0 < m ∧ m < 2 ^ 64 ∧ ∀ ns : List Int, ns.length = n.toNat → In m ns → R (tI ns) [.dk a b c, .d (.int n), .d (.int m)]
def sp_Lpair : DSp := fun cs R => ∃ a b c n m, cs = [.dk a b c, .d (.int n), .d (.int m)] ∧ 1 ≤ n ∧ n ≤ 1000 ∧ 0 < m ∧ m < 2 ^ 64 ∧ ∀ p q : List Int, p.length = n.toNat → q.length = n.toNat → In m p → In m q → R (prD p q) [.dk a b c, .d (.int n), .d (.int m)]
def lcmI (a b : Int) : Int := a * b / gcdI a b
def sp_Llcm : DSp := fun cs R => ∃ a b, cs = [.d (.int a), .d (.int b)] ∧ Pos a ∧ Pos b ∧ R (.int (lcmI a b)) cs
/-- the sides of a cut box -/
def IsCutBox (p q ns : List Int) (m : Int) : Prop := ns.length = p.length ∧ ∃ ax x y, ax < p.length ∧ 0 ≤ x ∧ x < m ∧ 1 ≤ y ∧ y ≤ m ∧ ∀ i, i < p.length → gi ns i = if i = ax then gi p i * x + gi q i * y else lcmI (gi p i) (gi q i)
def IsPlainBox (p ns : List Int) (m : Int) : Prop := ns.length = p.length ∧ ∀ i, i < p.length → ∃ k, 1 ≤ k ∧ k ≤ m ∧ gi ns i = gi p i * k
/-- two bricks of one kind -/
structure Pr (p q : List Int) : Prop where
  l : q.length = p.length
  l0 : 0 < p.length
  l1 : p.length ≤ 10
  p : ∀ x ∈ p, 1 ≤ x ∧ x < 2 ^ 60
  q : ∀ x ∈ q, 1 ≤ x ∧ x < 2 ^ 60
def sp_Lcut_box : DSp := fun cs R => ∃ a b c p q m, cs = [.dk a b c, .d (prD p q), .d (.int m)] ∧ Pr p q ∧ 0 < m ∧ m < 2 ^ 60 ∧ ∀ ns : List Int, IsCutBox p q ns m → R (tI ns) [.dk a b c, .d (prD p q), .d (.int m)]
def sp_Lplain_box : DSp := fun cs R => ∃ a b c p q m, cs = [.dk a b c, .d (prD p q), .d (.int m)] ∧ Pr p q ∧ 0 < m ∧ m < 2 ^ 60 ∧ ∀ ns : List Int, (IsPlainBox p ns m ∨ IsPlainBox q ns m) → R (tI ns) [.dk a b c, .d (prD p q), .d (.int m)]
def sp_Lrests : DSp := fun cs R => ∃ br bx : List Int, cs = [.d (tI br), .d (tI bx)] ∧ bx.length ≤ br.length ∧ bx.length ≤ 1000000 ∧ (∀ x ∈ br, 1 ≤ x) ∧ R (.list (lN (restsF br bx))) cs
def vol (ns : List Int) : Int := ns.foldl (fun a b => a * b) 1
def sp_Lvolume : DSp := fun cs R => ∃ ns : List Int, cs = [.d (tI ns)] ∧ (∀ x ∈ ns, -(2 ^ 64) < x ∧ x < 2 ^ 64) ∧ R (.int (vol ns)) cs
def sp_Lbox : DSp := fun cs R => ∃ a b c p q m v, cs = [.dk a b c, .d (prD p q), .d (.int m), .d (.int v)] ∧ Pr p q ∧ (∀ x ∈ p, x < 2 ^ 20) ∧ (∀ x ∈ q, x < 2 ^ 20) ∧ 0 < m ∧ m < 2 ^ 60 ∧ 1 ≤ v ∧ ∀ ns : List Int, ns.length = p.length → In v ns → vol ns ≤ v → R (tI ns) [.dk a b c, .d (prD p q), .d (.int m), .d (.int v)]
def w_Lsides : DTS := (wRet (wFn pTupOf (wCons (wOfL (wComp (iRange1 (wCons (wVar 1) wNil)) (gN 3) tT (wOp pAddB (wC (.int 1)) (wCall [true, false] sp_Ldraw (wCons (wVar 0) (wCons (wVar 2) wNil)))) [3])) wNil)))
def w_Lpair_s1 : DTS := (wSet 4 (mE (wOp pAddB (wOp pAddB (wSl pSl (wVar 3) wNoP (wPart (wVar 5))) (wTup (wCons (wOp pAddB (wC (.int 1)) (wCall [true, false] sp_Ldraw (wCons (wVar 0) (wCons (wVar 2) wNil)))) wNil))) (wSl pSl (wVar 3) (wPart (wOp pAddB (wVar 5) (wC (.int 1)))) wNoP))))
@[simp ↓] theorem w_Lpair_s1_ap (E : DEnds) (δ : DS) : w_Lpair_s1 E δ = (wSet 4 (mE (wOp pAddB (wOp pAddB (wSl pSl (wVar 3) wNoP (wPart (wVar 5))) (wTup (wCons (wOp pAddB (wC (.int 1)) (wCall [true, false] sp_Ldraw (wCons (wVar 0) (wCons (wVar 2) wNil)))) wNil))) (wSl pSl (wVar 3) (wPart (wOp pAddB (wVar 5) (wC (.int 1)))) wNoP)))) E δ := rfl
def w_Lpair_1 : DTS := (wSeq (wSet 5 (mE (wCall [true, false] sp_Ldraw (wCons (wVar 0) (wCons (wVar 1) wNil))))) w_Lpair_s1)
def w_Lpair_t1 : DTS := (wRet (wTup (wCons (wVar 3) (wCons (wVar 4) wNil))))
def w_Lpair_s2 : DTS := (wSeq (wIf (wB (wOp pEq (wCall [true, false] sp_Ldraw (wCons (wVar 0) (wCons (wC (.int 3)) wNil))) (wC (.int 0)))) w_Lpair_1 wNext) w_Lpair_t1)
@[simp ↓] theorem w_Lpair_s2_ap (E : DEnds) (δ : DS) : w_Lpair_s2 E δ = (wSeq (wIf (wB (wOp pEq (wCall [true, false] sp_Ldraw (wCons (wVar 0) (wCons (wC (.int 3)) wNil))) (wC (.int 0)))) w_Lpair_1 wNext) w_Lpair_t1) E δ := rfl
def w_Lpair : DTS := (wSeq (wPar2 3 4 (msCons (mE (wCall [true, false, false] sp_Lsides (wCons (wVar 0) (wCons (wVar 1) (wCons (wVar 2) wNil))))) (msCons (mE (wCall [true, false, false] sp_Lsides (wCons (wVar 0) (wCons (wVar 1) (wCons (wVar 2) wNil))))) msNil))) w_Lpair_s2)
def w_Lrests : DTS := (wRet (wOfL (wComp (iRange1 (wCons (wFn pLen (wCons (wVar 1) wNil)) wNil)) (gN 2) (wB (wOp pNe (wOp pMod (wFn pInt (wCons (wOp pIx (wVar 1) (wVar 2)) wNil)) (wOp pIx (wVar 0) (wVar 2))) (wC (.int 0)))) (wVar 2) [2])))
def w_Lone : DTS := (wRet (wOp pIx (wVar 1) (wCall [true, false] sp_Ldraw (wCons (wVar 0) (wCons (wFn pLen (wCons (wVar 1) wNil)) wNil)))))
def w_Lvolume_1 : DTS := (wSet 1 (mE (wOp pMulT (wVar 1) (wVar 2))))
def w_Lvolume_s1 : DTS := (wSeq (wFor (iSeq (wVar 0)) (gN 2) w_Lvolume_1) (wRet (wVar 1)))
@[simp ↓] theorem w_Lvolume_s1_ap (E : DEnds) (δ : DS) : w_Lvolume_s1 E δ = (wSeq (wFor (iSeq (wVar 0)) (gN 2) w_Lvolume_1) (wRet (wVar 1))) E δ := rfl
def w_Lvolume : DTS := (wSeq (wSet 1 (mE (wC (.int 1)))) w_Lvolume_s1)
def w_Llcm : DTS := (wRet (wOp pDiv (wOp pMulT (wVar 0) (wVar 1)) (wCall [] sp_common (wCons (wVar 0) (wCons (wVar 1) wNil)))))
def w_Lcut_box_s1 : DTS := (wRet (wFn pTupOf (wCons (wVar 4) wNil)))
@[simp ↓] theorem w_Lcut_box_s1_ap (E : DEnds) (δ : DS) : w_Lcut_box_s1 E δ = (wRet (wFn pTupOf (wCons (wVar 4) wNil))) E δ := rfl
def w_Lcut_box_1 : DTS := (wAppend 4 (wCall [] sp_Llcm (wCons (wOp pIx (wOp pIx (wVar 1) (wC (.int 0))) (wVar 5)) (wCons (wOp pIx (wOp pIx (wVar 1) (wC (.int 1))) (wVar 5)) wNil))))
def w_Lcut_box_t1 : DTS := (wSeq (wPut 4 (wOp pAddB (wOp pMulT (wOp pIx (wOp pIx (wVar 1) (wC (.int 0))) (wVar 3)) (wCall [true, false] sp_Ldraw (wCons (wVar 0) (wCons (wVar 2) wNil)))) (wOp pMulT (wOp pIx (wOp pIx (wVar 1) (wC (.int 1))) (wVar 3)) (wOp pAddB (wC (.int 1)) (wCall [true, false] sp_Ldraw (wCons (wVar 0) (wCons (wVar 2) wNil)))))) (wVar 3)) w_Lcut_box_s1)
def w_Lcut_box_s2 : DTS := (wSeq (wFor (iRange1 (wCons (wFn pLen (wCons (wOp pIx (wVar 1) (wC (.int 0))) wNil)) wNil)) (gN 5) w_Lcut_box_1) w_Lcut_box_t1)
@[simp ↓] theorem w_Lcut_box_s2_ap (E : DEnds) (δ : DS) : w_Lcut_box_s2 E δ = (wSeq (wFor (iRange1 (wCons (wFn pLen (wCons (wOp pIx (wVar 1) (wC (.int 0))) wNil)) wNil)) (gN 5) w_Lcut_box_1) w_Lcut_box_t1) E δ := rfl
def w_Lcut_box : DTS := (wSeq (wPar2 3 4 (msCons (mE (wCall [true, false] sp_Ldraw (wCons (wVar 0) (wCons (wFn pLen (wCons (wOp pIx (wVar 1) (wC (.int 0))) wNil)) wNil)))) (msCons (mL (wLst wNil)) msNil))) w_Lcut_box_s2)
def w_Lplain_box_s1 : DTS := (wRet (wFn pTupOf (wCons (wOfL (wComp (iSeq (wVar 3)) (gN 4) tT (wOp pMulT (wVar 4) (wOp pAddB (wC (.int 1)) (wCall [true, false] sp_Ldraw (wCons (wVar 0) (wCons (wVar 2) wNil))))) [4])) wNil)))
@[simp ↓] theorem w_Lplain_box_s1_ap (E : DEnds) (δ : DS) : w_Lplain_box_s1 E δ = (wRet (wFn pTupOf (wCons (wOfL (wComp (iSeq (wVar 3)) (gN 4) tT (wOp pMulT (wVar 4) (wOp pAddB (wC (.int 1)) (wCall [true, false] sp_Ldraw (wCons (wVar 0) (wCons (wVar 2) wNil))))) [4])) wNil))) E δ := rfl
def w_Lplain_box : DTS := (wSeq (wSet 3 (mE (wCall [true, false] sp_Lone (wCons (wVar 0) (wCons (wOfL (wFnL pLstOf (wCons (wVar 1) wNil))) wNil))))) w_Lplain_box_s1)
def w_Lbox_s1 : DTS := (wSet 6 (mE (wOp pAddB (wOp pAddB (wSl pSl (wVar 8) wNoP (wPart (wVar 7))) (wTup (wCons (wFn pMax2 (wCons (wC (.int 1)) (wCons (wOp pAddB (wOp pIx (wVar 8) (wVar 7)) (wCall [true, false] sp_Lone (wCons (wVar 0) (wCons (wOfL (wLst (wCons (wUn pNeg (wC (.int 1))) (wCons (wC (.int 1)) (wCons (wC (.int 2)) wNil))))) wNil)))) wNil))) wNil))) (wSl pSl (wVar 8) (wPart (wOp pAddB (wVar 7) (wC (.int 1)))) wNoP))))
@[simp ↓] theorem w_Lbox_s1_ap (E : DEnds) (δ : DS) : w_Lbox_s1 E δ = (wSet 6 (mE (wOp pAddB (wOp pAddB (wSl pSl (wVar 8) wNoP (wPart (wVar 7))) (wTup (wCons (wFn pMax2 (wCons (wC (.int 1)) (wCons (wOp pAddB (wOp pIx (wVar 8) (wVar 7)) (wCall [true, false] sp_Lone (wCons (wVar 0) (wCons (wOfL (wLst (wCons (wUn pNeg (wC (.int 1))) (wCons (wC (.int 1)) (wCons (wC (.int 2)) wNil))))) wNil)))) wNil))) wNil))) (wSl pSl (wVar 8) (wPart (wOp pAddB (wVar 7) (wC (.int 1)))) wNoP)))) E δ := rfl
def w_Lbox_s2 : DTS := (wSeq (wSet 8 (mE (wCall [true, false] sp_Lone (wCons (wVar 0) (wCons (wOfL (wLst (wCons (wCall [true, false, false] sp_Lcut_box (wCons (wVar 0) (wCons (wVar 1) (wCons (wC (.int 3)) wNil)))) (wCons (wCall [true, false, false] sp_Lplain_box (wCons (wVar 0) (wCons (wVar 1) (wCons (wC (.int 3)) wNil)))) wNil)))) wNil))))) w_Lbox_s1)
@[simp ↓] theorem w_Lbox_s2_ap (E : DEnds) (δ : DS) : w_Lbox_s2 E δ = (wSeq (wSet 8 (mE (wCall [true, false] sp_Lone (wCons (wVar 0) (wCons (wOfL (wLst (wCons (wCall [true, false, false] sp_Lcut_box (wCons (wVar 0) (wCons (wVar 1) (wCons (wC (.int 3)) wNil)))) (wCons (wCall [true, false, false] sp_Lplain_box (wCons (wVar 0) (wCons (wVar 1) (wCons (wC (.int 3)) wNil)))) wNil)))) wNil))))) w_Lbox_s1) E δ := rfl
def w_Lbox_1 : DTS := (wSeq (wSet 7 (mE (wCall [true, false] sp_Ldraw (wCons (wVar 0) (wCons (wFn pLen (wCons (wVar 6) wNil)) wNil))))) w_Lbox_s2)
def w_Lbox_t1 : DTS := (wIf (wB (wOp pLe (wCall [] sp_Lvolume (wCons (wVar 6) wNil)) (wVar 3))) (wRet (wVar 6)) wNext)
def w_Lbox_3 : DTS := (wSet 6 (mE (wCall [true, false, false] sp_Lplain_box (wCons (wVar 0) (wCons (wVar 1) (wCons (wC (.int 3)) wNil))))))
def w_Lbox_t2 : DTS := (wSeq (wIf (wB (wOp pEq (wVar 5) (wC (.int 2)))) w_Lbox_1 wNext) w_Lbox_t1)
def w_Lbox_5 : DTS := (wSet 6 (mE (wCall [true, false, false] sp_Lcut_box (wCons (wVar 0) (wCons (wVar 1) (wCons (wC (.int 3)) wNil))))))
def w_Lbox_t3 : DTS := (wSeq (wIf (wB (wOp pEq (wVar 5) (wC (.int 1)))) w_Lbox_3 wNext) w_Lbox_t2)
def w_Lbox_s3 : DTS := (wSeq (wIf (wB (wOp pEq (wVar 5) (wC (.int 0)))) w_Lbox_5 wNext) w_Lbox_t3)
@[simp ↓] theorem w_Lbox_s3_ap (E : DEnds) (δ : DS) : w_Lbox_s3 E δ = (wSeq (wIf (wB (wOp pEq (wVar 5) (wC (.int 0)))) w_Lbox_5 wNext) w_Lbox_t3) E δ := rfl
def w_Lbox_s4 : DTS := (wSeq (wSet 6 (mE (wCall [true, false, false] sp_Lsides (wCons (wVar 0) (wCons (wFn pLen (wCons (wOp pIx (wVar 1) (wC (.int 0))) wNil)) (wCons (wVar 2) wNil)))))) w_Lbox_s3)
@[simp ↓] theorem w_Lbox_s4_ap (E : DEnds) (δ : DS) : w_Lbox_s4 E δ = (wSeq (wSet 6 (mE (wCall [true, false, false] sp_Lsides (wCons (wVar 0) (wCons (wFn pLen (wCons (wOp pIx (wVar 1) (wC (.int 0))) wNil)) (wCons (wVar 2) wNil)))))) w_Lbox_s3) E δ := rfl
def w_Lbox_7 : DTS := (wSeq (wSet 5 (mE (wCall [true, false] sp_Ldraw (wCons (wVar 0) (wCons (wC (.int 4)) wNil))))) w_Lbox_s4)
def w_Lbox_t4 : DTS := (wRet (wOp pMulT (wTup (wCons (wC (.int 1)) wNil)) (wFn pLen (wCons (wOp pIx (wVar 1) (wC (.int 0))) wNil))))
def w_Lbox : DTS := (wSeq (wFor (iRange1 (wCons (wC (.int 12)) wNil)) (gN 4) w_Lbox_7) w_Lbox_t4)
theorem ln_Lsides : ∀ cs R, sp_Lsides cs R → cs.length = 3 := by
  intro cs R h
  unfold sp_Lsides at h
  repeat (obtain ⟨_, h⟩ := h)
  subst_vars; rfl
theorem ln_Lpair : ∀ cs R, sp_Lpair cs R → cs.length = 3 := by
  intro cs R h
  unfold sp_Lpair at h
  repeat (obtain ⟨_, h⟩ := h)
  subst_vars; rfl
theorem ln_Lrests : ∀ cs R, sp_Lrests cs R → cs.length = 2 := by
  intro cs R h
  unfold sp_Lrests at h
  repeat (obtain ⟨_, h⟩ := h)
  subst_vars; rfl
theorem ln_Lone : ∀ cs R, sp_Lone cs R → cs.length = 2 := by
  intro cs R h
  unfold sp_Lone at h
  repeat (obtain ⟨_, h⟩ := h)
  subst_vars; rfl
theorem ln_Lvolume : ∀ cs R, sp_Lvolume cs R → cs.length = 1 := by
  intro cs R h
  unfold sp_Lvolume at h
  repeat (obtain ⟨_, h⟩ := h)
  subst_vars; rfl
theorem ln_Llcm : ∀ cs R, sp_Llcm cs R → cs.length = 2 := by
  intro cs R h
  unfold sp_Llcm at h
  repeat (obtain ⟨_, h⟩ := h)
  subst_vars; rfl
theorem ln_Lcut_box : ∀ cs R, sp_Lcut_box cs R → cs.length = 3 := by
  intro cs R h
  unfold sp_Lcut_box at h
  repeat (obtain ⟨_, h⟩ := h)
  subst_vars; rfl
theorem ln_Lplain_box : ∀ cs R, sp_Lplain_box cs R → cs.length = 3 := by
  intro cs R h
  unfold sp_Lplain_box at h
  repeat (obtain ⟨_, h⟩ := h)
  subst_vars; rfl
theorem ln_Lbox : ∀ cs R, sp_Lbox cs R → cs.length = 4 := by
  intro cs R h
  unfold sp_Lbox at h
  repeat (obtain ⟨_, h⟩ := h)
  subst_vars; rfl
end TW
set_option Elab.async false
set_option linter.all false
set_option maxRecDepth 100000
set_option maxHeartbeats 4000000
namespace TW
open PySem PySem.Spec PyProof.Rows L2 DL
theorem rd_Lone : ∀ cs R, sp_Lone cs R → w_Lone (endsOf cs R) (start0 2 cs) := by
  rintro _ R ⟨a, b, c, d, xs, rfl, hd, h0, h1, hR⟩
  cases d with
  | list ds =>
    cases hd
    simp -implicitDefEqProofs -dsimp [w_Lone]
    refine ask_draw (by omega) (by omega) fun r q0 q1 => ?_
    (try simp -implicitDefEqProofs -dsimp)
    obtain ⟨z, hz, e⟩ := atI_ex (xs := xs) q0 q1
    exact onS_of e (by simp -implicitDefEqProofs -dsimp; exact hR z hz)
  | tuple ds =>
    cases hd
    simp -implicitDefEqProofs -dsimp [w_Lone]
    refine ask_draw (by omega) (by omega) fun r q0 q1 => ?_
    (try simp -implicitDefEqProofs -dsimp)
    obtain ⟨z, hz, e⟩ := atI_ex (xs := xs) q0 q1
    exact onS_of e (by simp -implicitDefEqProofs -dsimp; exact hR z hz)
  | _ => cases hd
theorem rd_Lsides : ∀ cs R, sp_Lsides cs R → w_Lsides (endsOf cs R) (start0 4 cs) := by
  rintro _ R ⟨a, b, c, n, m, rfl, h0, h1, h2, h3, hR⟩
  simp -implicitDefEqProofs -dsimp [w_Lsides]
  refine ⟨by omega, by omega, ?_⟩
  refine com_ints (fun i => 1 ≤ i ∧ i ≤ m) (fun x hx acc K hK => ?_) fun ns hl hn => ?_
  · (try simp -implicitDefEqProofs -dsimp)
    refine ask_draw h2 (by omega) fun r q0 q1 => ?_
    (try simp -implicitDefEqProofs -dsimp)
    exact hK _ ⟨by omega, by omega⟩
  · (try simp -implicitDefEqProofs -dsimp)
    exact hR ns (by simpa [nums] using hl) hn
theorem cutD_drop {α : Type} (xs : List α) (n : Nat) : cutD xs (some (n : Int)) none = xs.drop n := by
  unfold DL.cutD
  rw [HT.sIx_none, HT.sIx_nat]
  by_cases h : n ≤ xs.length
  · rw [Nat.min_eq_left h, List.take_of_length_le (by simp)]
  · rw [Nat.min_eq_right (by omega), List.drop_of_length_le (show xs.length ≤ xs.length by omega), List.drop_of_length_le (by omega)]; simp
theorem cutD_drop1 {α : Type} (xs : List α) (n : Nat) : cutD xs (some ((n : Int) + 1)) none = xs.drop (n + 1) := cutD_drop xs (n + 1)
theorem put_at {α : Type} {xs : List α} {n : Nat} {y : α} (h : n < xs.length) : xs.take n ++ (y :: xs.drop (n + 1)) = xs.set n y := by
  rw [List.set_eq_take_append_cons_drop, if_pos h]
/-- x[:i] + (d,) + x[i + 1:] -/
theorem cut_put {xs : List PyData} {n : Nat} {y : PyData} (h : n < xs.length) : cutD xs none (some (n : Int)) ++ [y] ++ cutD xs (some ((n : Int) + 1)) none = xs.set n y := by
  rw [cutD_take, cutD_drop1, List.append_assoc, List.singleton_append, put_at h]
theorem In.set {m y : Int} {ns : List Int} {n : Nat} (h : In m ns) (h0 : 1 ≤ y) (h1 : y ≤ m) : In m (ns.set n y) := fun x hx => by
  rcases List.mem_or_eq_of_mem_set hx with q | q
  · exact h x q
  · subst q; exact ⟨h0, h1⟩
theorem rd_Lpair : ∀ cs R, sp_Lpair cs R → w_Lpair (endsOf cs R) (start0 6 cs) := by
  rintro _ R ⟨a, b, c, n, m, rfl, h0, h1, h2, h3, hR⟩
  simp -implicitDefEqProofs -dsimp [w_Lpair]
  refine ask_of ⟨a, b, c, n, m, rfl, by omega, by omega, h2, h3, fun p hp ip => ?_⟩
  (try simp -implicitDefEqProofs -dsimp)
  refine ask_of ⟨a, b, c, n, m, rfl, by omega, by omega, h2, h3, fun q hq iq => ?_⟩
  (try simp -implicitDefEqProofs -dsimp)
  refine ask_draw (by omega) (by omega) fun r q0 q1 => ?_
  (try simp -implicitDefEqProofs -dsimp)
  split
  · simp -implicitDefEqProofs -dsimp [w_Lpair_1]
    refine ask_draw (by omega) (by omega) fun t t0 t1 => ?_
    (try simp -implicitDefEqProofs -dsimp)
    refine ask_draw (by omega) (by omega) fun u u0 u1 => ?_
    obtain ⟨k, rfl⟩ : ∃ k : Nat, t = k := ⟨t.toNat, by omega⟩
    have e := cut_put (xs := lI p) (n := k) (y := .int (1 + u)) (by simp; omega)
    simp only [lI, List.append_assoc, List.singleton_append] at e
    simp -implicitDefEqProofs -dsimp [w_Lpair_t1, e]
    have l1 : (DL.cutD (lI p) none (some ↑k)).length ≤ 1000 := by rw [cutD_take]; simp; omega
    have l2 : (DL.cutD (lI p) (some (↑k + 1)) none).length ≤ 1000 := by rw [cutD_drop1]; simp; omega
    refine ⟨by omega, by omega, ?_⟩
    rw [← List.map_set]
    exact hR p (p.set k (1 + u)) hp (by simpa using hp) ip (ip.set (by omega) (by omega))
  · simp -implicitDefEqProofs -dsimp [w_Lpair_t1]
    exact hR p q hp hq ip iq
theorem lcm_pos {a b : Int} (ha : 1 ≤ a) (hb : 1 ≤ b) : 1 ≤ lcmI a b ∧ lcmI a b ≤ a * b ∧ a ∣ lcmI a b ∧ b ∣ lcmI a b := by
  obtain ⟨g0, g1⟩ := gcd_le (b := b) ha
  obtain ⟨a', ea⟩ := gcd_dvd_l a b
  obtain ⟨b', eb⟩ := gcd_dvd_r a b
  unfold lcmI
  have e1 : a * b / gcdI a b = a * b' := by
    conv => lhs; rw [show a * b = gcdI a b * (a * b') by rw [Int.mul_left_comm, ← eb]]
    exact Int.mul_ediv_cancel_left _ (by omega)
  have e2 : a * b / gcdI a b = b * a' := by
    conv => lhs; rw [show a * b = gcdI a b * (b * a') by rw [Int.mul_left_comm, ← ea, Int.mul_comm]]
    exact Int.mul_ediv_cancel_left _ (by omega)
  have p : 0 < b' := Int.pos_of_mul_pos_right (a := gcdI a b) (b := b') (by rw [← eb]; omega) (by omega)
  have q := Int.mul_le_mul_of_nonneg_left (show (1 : Int) ≤ b' by omega) (show 0 ≤ a by omega)
  have r : b' ≤ b := by
    have := Int.mul_le_mul_of_nonneg_right g0 (show 0 ≤ b' by omega)
    omega
  have s := Int.mul_le_mul_of_nonneg_left r (show 0 ≤ a by omega)
  refine ⟨by rw [e1]; omega, by rw [e1]; omega, ⟨b', e1⟩, ⟨a', e2⟩⟩
theorem rd_Llcm : ∀ cs R, sp_Llcm cs R → w_Llcm (endsOf cs R) (start0 2 cs) := by
  rintro _ R ⟨a, b, rfl, ⟨a0, a1⟩, ⟨b0, b1⟩, hR⟩
  obtain ⟨g0, g1⟩ := gcd_le (b := b) a0
  have B := BIG_ge
  simp -implicitDefEqProofs -dsimp [w_Llcm]
  refine ⟨mul_big (by omega) (by omega) (by omega) (by omega), ask_of ⟨a, b, rfl, by omega, by omega, ?_⟩⟩
  (try simp -implicitDefEqProofs -dsimp)
  exact ⟨div_big (by omega) (by omega), hR⟩
theorem Pr.at {p q : List Int} (h : Pr p q) {i : Nat} (hi : i < p.length) : p[i]? = some (gi p i) ∧ q[i]? = some (gi q i) ∧ (1 ≤ gi p i ∧ gi p i < 2 ^ 60) ∧ (1 ≤ gi q i ∧ gi q i < 2 ^ 60) :=
  have hj : i < q.length := by have := h.l; omega
  ⟨gi_at hi, gi_at hj, h.p _ (gi_mem hi), h.q _ (gi_mem hj)⟩
theorem pos60 {x : Int} (h : 1 ≤ x ∧ x < 2 ^ 60) : Pos x := Pos.of h.1 (by omega)
theorem gi_set {ns : List Int} {i k : Nat} {y : Int} (hi : i < ns.length) : gi (ns.set k y) i = if i = k then y else gi ns i := by
  unfold gi
  rw [List.getElem?_set]
  by_cases h : k = i
  · subst h; simp [hi]
  · rw [if_neg h, if_neg (fun e => h e.symm)]
theorem rd_Lcut_box : ∀ cs R, sp_Lcut_box cs R → w_Lcut_box (endsOf cs R) (start0 6 cs) := by
  rintro _ R ⟨a, b, c, p, q, m, rfl, h, h0, h1, hR⟩
  have l0 := h.l0
  have l1 := h.l1
  simp -implicitDefEqProofs -dsimp [w_Lcut_box]
  refine ask_draw (by omega) (by omega) fun t t0 t1 => ?_
  obtain ⟨ax, rfl⟩ : ∃ k : Nat, t = k := ⟨t.toNat, by omega⟩
  (try simp -implicitDefEqProofs -dsimp)
  intro fa
  refine ⟨by omega, ?_⟩
  rw [nums_0]
  refine for_plain (List.range p.length) _ rfl (fun rest δ => ∃ (c5 : Cell) (done : Nat), done + rest.length = p.length ∧ rest = (List.range' done (p.length - done)) ∧ δ = [.dk a b c, .d (prD p q), .d (.int m), .d (.int (ax : Nat)), .ol fa (lI ((List.range done).map fun i => lcmI (gi p i) (gi q i))), c5]) ⟨_, 0, by simp, by simp [List.range_eq_range'], rfl⟩ ?_ ?_
  · rintro δ ⟨c5, done, hd, _, rfl⟩
    have : done = p.length := by simpa using hd
    subst this
    obtain ⟨ep, eq, ip, iq⟩ := h.at (i := ax) (by omega)
    simp -implicitDefEqProofs -dsimp [w_Lcut_box_t1, ep, eq]
    refine ask_draw (by omega) (by omega) fun x x0 x1 => ?_
    simp -implicitDefEqProofs -dsimp [ep, eq]
    refine ⟨cm_l (by omega), ask_draw (by omega) (by omega) fun y y0 y1 => ?_⟩
    refine ⟨cm_l (by omega), ⟨fa, _, rfl⟩, ax, ?_, ?_⟩
    · rw [ixN_nn (by omega) (by simp; omega)]; simp
    · (try simp -implicitDefEqProofs -dsimp)
      have e : List.map (PyData.int ∘ fun i => lcmI (gi p i) (gi q i)) (List.range p.length) = lI ((List.range p.length).map fun i => lcmI (gi p i) (gi q i)) := by simp [lI]
      rw [e, ← List.map_set]
      refine hR _ ⟨by simp, ax, x, 1 + y, by omega, x0, x1, by omega, by omega, fun i hi => ?_⟩
      rw [gi_set (by simpa using hi)]
      by_cases z : i = ax
      · subst z; simp
      · rw [if_neg z, if_neg z, gi_range hi]
  · rintro i rest δ ⟨c5, done, hd, hr, rfl⟩ K B T hK
    have hlt : done < p.length := by simp at hd; omega
    rw [show p.length - done = (p.length - done - 1) + 1 by omega, List.range'_succ, List.cons.injEq] at hr
    obtain ⟨rfl, hr⟩ := hr
    obtain ⟨ep, eq, ip, iq⟩ := h.at hlt
    simp -implicitDefEqProofs -dsimp [w_Lcut_box_1, ep, eq]
    refine ⟨⟨fa, _, rfl⟩, ask_of ⟨_, _, rfl, pos60 ip, pos60 iq, ?_⟩⟩
    (try simp -implicitDefEqProofs -dsimp)
    have e : List.map (PyData.int ∘ fun i => lcmI (gi p i) (gi q i)) (List.range i) ++ [PyData.int (lcmI (gi p i) (gi q i))] = lI ((List.range (i + 1)).map fun i => lcmI (gi p i) (gi q i)) := by simp [List.range_succ]
    rw [e]
    exact ⟨by omega, hK _ ⟨_, i + 1, by simp at hd; omega, by rw [hr]; congr 1, rfl⟩⟩
theorem IsPlainBox.of {p ns : List Int} {m : Int} (hl : ns.length = p.length) (h : ∀ i, i < p.length → ∃ k, 1 ≤ k ∧ k ≤ m ∧ gi ns i = gi p i * k) : IsPlainBox p ns m := ⟨hl, h⟩
/-- each item by one of many, place by place -/
theorem com_gi {g : DTG} {t : DT} {e : DE} {vs : List Nat} {δ : DS} {xs : List Int} {R : List PyData → DS → Prop} {u : Stop R} (P : Int → Int → Prop)
    (hs : ∀ x ∈ xs, ∀ (acc : List PyData) (K : List PyData → DS → Prop), (∀ y, P x y → K (acc ++ [.int y]) δ) → g (.int x) δ fun δ1 => t δ1 fun b δ2 => if b = true then e δ2 fun o δ3 => lk o δ3 fun y δ4 => K (acc ++ [y]) (wipeD δ4 vs) else K acc (wipeD δ2 vs)) (k : ∀ ns : List Int, ns.length = xs.length → (∀ i, i < xs.length → P (gi xs i) (gi ns i)) → R (lI ns) δ) : comC g t e vs (lI xs) [] δ R u := by
  refine com_inv (fun ys acc δ' => δ' = δ ∧ ∃ (pre post ns : List Int), xs = pre ++ post ∧ ys = lI post ∧ acc = lI ns ∧ ns.length = pre.length ∧ ∀ i, i < pre.length → P (gi pre i) (gi ns i)) ⟨rfl, [], xs, [], rfl, rfl, rfl, rfl, by simp⟩ ?_ ?_
  · rintro acc δ' ⟨rfl, pre, post, ns, he, hy, rfl, hl, hp⟩
    have : post = [] := by
      cases post with
      | nil => rfl
      | cons => cases hy
    subst this
    have : pre = xs := by rw [he]; simp
    subst this
    exact k ns hl hp
  · rintro x ys acc δ' ⟨rfl, pre, post, ns, he, hy, rfl, hl, hp⟩ K hK
    cases post with
    | nil => cases hy
    | cons z post =>
      simp only [lI, List.map_cons, List.cons.injEq] at hy
      obtain ⟨rfl, rfl⟩ := hy
      refine hs z (by rw [he]; simp) _ K fun y py => hK _ _ ⟨rfl, pre ++ [z], post, ns ++ [y], by rw [he]; simp, rfl, by simp, by simp [hl], fun i hi => ?_⟩
      by_cases c : i < pre.length
      · have e1 : gi (pre ++ [z]) i = gi pre i := by unfold gi; rw [List.getElem?_append_left c]
        have e2 : gi (ns ++ [y]) i = gi ns i := by unfold gi; rw [List.getElem?_append_left (by omega)]
        rw [e1, e2]; exact hp i c
      · have : i = pre.length := by simp at hi; omega
        subst this
        have e1 : gi (pre ++ [z]) pre.length = z := by unfold gi; simp
        have e2 : gi (ns ++ [y]) pre.length = y := by unfold gi; rw [← hl]; simp
        rw [e1, e2]; exact py
theorem rd_Lplain_box : ∀ cs R, sp_Lplain_box cs R → w_Lplain_box (endsOf cs R) (start0 5 cs) := by
  rintro _ R ⟨a, b, c, p, q, m, rfl, h, h0, h1, hR⟩
  simp -implicitDefEqProofs -dsimp [w_Lplain_box]
  refine ask_of ⟨a, b, c, _, _, rfl, rfl, by simp, by simp, fun x hx => ?_⟩
  have main : ∀ br : List Int, (∀ x ∈ br, 1 ≤ x ∧ x < 2 ^ 60) → (∀ ns, IsPlainBox br ns m → R (tI ns) [.dk a b c, .d (prD p q), .d (.int m)]) →
      comC (gN 4) tT (wOp pMulT (wVar 4) (wOp pAdd (wC (.int 1)) (wCall [true, false] sp_Ldraw (wCons (wVar 0) (wCons (wVar 2) wNil))))) [4] (lI br) [] [.dk a b c, .d (prD p q), .d (.int m), .d (tI br), .em] (fun ys δ2 => (endsOf [.dk a b c, .d (prD p q), .d (.int m)] R).rt (.tuple ys) (backD [.dk a b c, .d (prD p q), .d (.int m), .d (tI br), .em] δ2 [4])) .mk := fun br hb hk => by
    refine com_gi (fun x y => ∃ k, 1 ≤ k ∧ k ≤ m ∧ y = x * k) (fun x hx acc K hK => ?_) fun ns hl hn => ?_
    · (try simp -implicitDefEqProofs -dsimp)
      refine ask_draw h0 (by omega) fun r q0 q1 => ?_
      (try simp -implicitDefEqProofs -dsimp)
      have := hb x hx
      exact ⟨cm_l (by omega), hK _ ⟨1 + r, by omega, by omega, rfl⟩⟩
    · (try simp -implicitDefEqProofs -dsimp)
      exact hk ns ⟨hl, hn⟩
  rcases List.mem_cons.mp hx with rfl | hx
  · (try simp -implicitDefEqProofs -dsimp)
    exact main p h.p fun ns hn => hR ns (.inl hn)
  · have hx := List.mem_singleton.mp hx
    subst hx
    (try simp -implicitDefEqProofs -dsimp)
    exact main q h.q fun ns hn => hR ns (.inr hn)
theorem rd_Lrests : ∀ cs R, sp_Lrests cs R → w_Lrests (endsOf cs R) (start0 3 cs) := by
  rintro _ R ⟨br, bx, rfl, hl, hl2, hb, hR⟩
  simp -implicitDefEqProofs -dsimp [w_Lrests]
  refine ⟨by omega, ?_⟩
  rw [nums_0]
  refine com_map (List.range bx.length) _ rfl (fun i => if (!decide (gi bx i % gi br i = 0)) = true then some (.int (i : Nat)) else none) (fun i hi acc K hK => ?_) ?_
  · have hi := List.mem_range.mp hi
    have p := hb _ (gi_mem (ns := br) (i := i) (by omega))
    simp -implicitDefEqProofs -dsimp [gi_at (ns := br) (i := i) (by omega), gi_at hi]
    refine ⟨by omega, ?_⟩
    split
    · rename_i z
      simpa [z] using hK
    · rename_i z
      simpa [z] using hK
  · rw [fm_map]
    (try simp -implicitDefEqProofs -dsimp)
    exact hR
theorem foldl_app {ns : List Int} {x y : Int} : (ns ++ [x]).foldl (fun a b => a * b) y = ns.foldl (fun a b => a * b) y * x := by simp
theorem rd_Lvolume : ∀ cs R, sp_Lvolume cs R → w_Lvolume (endsOf cs R) (start0 3 cs) := by
  rintro _ R ⟨ns, rfl, h, hR⟩
  simp -implicitDefEqProofs -dsimp [w_Lvolume]
  refine for_plain ns _ rfl (fun rest δ => ∃ (c2 : Cell) (pre : List Int), ns = pre ++ rest ∧ δ = [.d (tI ns), .d (.int (vol pre)), c2]) ⟨_, [], rfl, rfl⟩ ?_ ?_
  · rintro δ ⟨c2, pre, he, rfl⟩
    have : pre = ns := by rw [he]; simp
    subst this
    (try simp -implicitDefEqProofs -dsimp)
    exact hR
  · rintro x rest δ ⟨c2, pre, he, rfl⟩ K B T hK
    have := h x (by rw [he]; simp)
    simp -implicitDefEqProofs -dsimp [w_Lvolume_1]
    have e : vol pre * x = vol (pre ++ [x]) := by unfold vol; rw [foldl_app]
    rw [e]
    exact ⟨cm_r (by omega), hK _ ⟨_, pre ++ [x], by rw [he]; simp, rfl⟩⟩
theorem eqv_natsA : ∀ (as bs : List Nat), PyData.eqvAll (lN as) (lN bs) = decide (as = bs)
  | [], [] => by simp [PyData.eqvAll]
  | [], _ :: _ => by simp [PyData.eqvAll]
  | _ :: _, [] => by simp [PyData.eqvAll]
  | a :: as, b :: bs => by
    have := eqv_natsA as bs
    simp only [lN, List.map_cons, PyData.eqvAll, PyData.eqv] at this ⊢
    rw [this]
    by_cases h : a = b
    · subst h; simp
    · have : ¬ ((a : Int) = (b : Int)) := by omega
      simp [h, this]
theorem vol_cons (x : Int) (xs : List Int) : vol (x :: xs) = x * vol xs := by
  unfold vol
  have : ∀ (l : List Int) (y z : Int), l.foldl (fun a b => a * b) (y * z) = y * l.foldl (fun a b => a * b) z := by
    intro l
    induction l with
    | nil => intros; rfl
    | cons w l ih => intro y z; simp only [List.foldl_cons]; rw [Int.mul_assoc, ih]
  rw [List.foldl_cons, Int.one_mul, ← this xs x 1, Int.mul_one]
theorem vol_pos : ∀ {ns : List Int}, (∀ x ∈ ns, 1 ≤ x) → 1 ≤ vol ns
  | [], _ => by simp [vol]
  | x :: xs, h => by
    have a := h x (List.mem_cons_self ..)
    have b := vol_pos fun y hy => h y (List.mem_cons_of_mem _ hy)
    rw [vol_cons]
    have := Int.mul_le_mul a b (by omega) (by omega)
    omega
theorem vol_ge : ∀ {ns : List Int}, (∀ x ∈ ns, 1 ≤ x) → ∀ x ∈ ns, x ≤ vol ns
  | [], _, x, hx => by cases hx
  | y :: ys, h, x, hx => by
    have a := h y (List.mem_cons_self ..)
    have h' : ∀ z ∈ ys, 1 ≤ z := fun z hz => h z (List.mem_cons_of_mem _ hz)
    have b := vol_pos h'
    rw [vol_cons]
    rcases List.mem_cons.mp hx with rfl | hx
    · have := Int.mul_le_mul_of_nonneg_left b (show 0 ≤ x by omega)
      omega
    · have c := vol_ge h' x hx
      have := Int.mul_le_mul_of_nonneg_right a (show 0 ≤ vol ys by omega)
      omega
theorem vol_in {ns : List Int} {v : Int} (h : ∀ x ∈ ns, 1 ≤ x) (hv : vol ns ≤ v) : In v ns := fun x hx => ⟨h x hx, by have := vol_ge h x hx; omega⟩
/-- a side of any box that is drawn -/
def Mid (B : Int) (p ns : List Int) : Prop := ns.length = p.length ∧ ∀ x ∈ ns, 1 ≤ x ∧ x < B
theorem mid_of {B : Int} {p ns : List Int} (hl : ns.length = p.length) (h : ∀ i, i < p.length → 1 ≤ gi ns i ∧ gi ns i < B) : Mid B p ns := ⟨hl, fun x hx => by
  obtain ⟨i, hi, e⟩ := List.mem_iff_getElem.mp hx
  have := h i (by omega)
  have g := gi_at hi
  rw [List.getElem?_eq_getElem hi, e] at g
  rw [← Option.some.inj g] at this
  exact this⟩
theorem cut_mid {p q ns : List Int} (h : Pr p q) (hp : ∀ x ∈ p, x < 2 ^ 20) (hq : ∀ x ∈ q, x < 2 ^ 20) (c : IsCutBox p q ns 3) : Mid (2 ^ 50) p ns := by
  obtain ⟨hl, ax, x, y, hax, x0, x1, y0, y1, e⟩ := c
  refine mid_of hl fun i hi => ?_
  obtain ⟨_, _, ip, iq⟩ := h.at hi
  have a1 := hp _ (gi_mem hi)
  have b1 := hq _ (gi_mem (show i < q.length by have := h.l; omega))
  rw [e i hi]
  split
  · have u1 := Int.mul_le_mul_of_nonneg_left (show x ≤ 3 by omega) (show 0 ≤ gi p i by omega)
    have u2 := Int.mul_le_mul_of_nonneg_left (show y ≤ 3 by omega) (show 0 ≤ gi q i by omega)
    have u3 := Int.mul_le_mul_of_nonneg_left y0 (show 0 ≤ gi q i by omega)
    have u4 := Int.mul_nonneg (show 0 ≤ gi p i by omega) x0
    omega
  · obtain ⟨u1, u2, _⟩ := lcm_pos ip.1 iq.1
    have := Int.mul_le_mul (show gi p i ≤ 2 ^ 20 by omega) (show gi q i ≤ 2 ^ 20 by omega) (by omega) (by omega)
    omega
theorem plain_mid {p br ns : List Int} (hl : br.length = p.length) (hb : ∀ x ∈ br, 1 ≤ x ∧ x < 2 ^ 60) (hp : ∀ x ∈ br, x < 2 ^ 20) (c : IsPlainBox br ns 3) : Mid (2 ^ 50) p ns := by
  refine mid_of (by rw [c.1, hl]) fun i hi => ?_
  obtain ⟨k, k0, k1, e⟩ := c.2 i (by omega)
  have a1 := hp _ (gi_mem (show i < br.length by omega))
  have a2 := hb _ (gi_mem (show i < br.length by omega))
  rw [e]
  have u1 := Int.mul_le_mul_of_nonneg_left (show k ≤ 3 by omega) (show 0 ≤ gi br i by omega)
  have u2 := Int.mul_le_mul_of_nonneg_left k0 (show 0 ≤ gi br i by omega)
  omega
/-- the end of a turn -/
theorem rd_Lbox_t1 {E : DEnds} {a b c : Addr} {p ns : List Int} {pr : PyData} {m v : Int} {c4 c5 c7 c8 : Cell} (h : Mid (2 ^ 62) p ns)
    (k0 : vol ns ≤ v → E.rt (tI ns) [.dk a b c, .d pr, .d (.int m), .d (.int v), c4, c5, .d (tI ns), c7, c8])
    (k1 : E.nx [.dk a b c, .d pr, .d (.int m), .d (.int v), c4, c5, .d (tI ns), c7, c8]) :
    w_Lbox_t1 E [.dk a b c, .d pr, .d (.int m), .d (.int v), c4, c5, .d (tI ns), c7, c8] := by
  simp -implicitDefEqProofs -dsimp [w_Lbox_t1]
  refine ask_of ⟨ns, rfl, fun x hx => by have := h.2 x hx; omega, ?_⟩
  (try simp -implicitDefEqProofs -dsimp)
  split
  · rename_i z
    exact k0 z
  · exact k1
theorem rd_Lbox_1 {E : DEnds} {a b c : Addr} {p q ns : List Int} {m v : Int} {c4 c5 c7 c8 : Cell} (h : Pr p q) (hp : ∀ x ∈ p, x < 2 ^ 20) (hq : ∀ x ∈ q, x < 2 ^ 20) (hn : Mid (2 ^ 62) p ns)
    (k : ∀ ns', Mid (2 ^ 62) p ns' → ∀ c7 c8, E.nx [.dk a b c, .d (prD p q), .d (.int m), .d (.int v), c4, c5, .d (tI ns'), c7, c8]) :
    w_Lbox_1 E [.dk a b c, .d (prD p q), .d (.int m), .d (.int v), c4, c5, .d (tI ns), c7, c8] := by
  have l0 := h.l0
  have l1 := h.l1
  have ln := hn.1
  simp -implicitDefEqProofs -dsimp [w_Lbox_1]
  refine ask_draw (by omega) (by omega) fun t t0 t1 => ?_
  obtain ⟨at', rfl⟩ : ∃ k : Nat, t = k := ⟨t.toNat, by omega⟩
  (try simp -implicitDefEqProofs -dsimp)
  refine ask_of ⟨a, b, c, p, q, 3, rfl, h, by omega, by omega, fun n1 h1 => ?_⟩
  (try simp -implicitDefEqProofs -dsimp)
  refine ask_of ⟨a, b, c, p, q, 3, rfl, h, by omega, by omega, fun n2 h2 => ?_⟩
  (try simp -implicitDefEqProofs -dsimp)
  refine ask_of ⟨a, b, c, _, _, rfl, rfl, by simp, by simp, fun x hx => ?_⟩
  have : ∃ n3, x = tI n3 ∧ Mid (2 ^ 50) p n3 := by
    rcases List.mem_cons.mp hx with rfl | hx
    · exact ⟨n1, rfl, cut_mid h hp hq h1⟩
    · have hx := List.mem_singleton.mp hx
      subst hx
      refine ⟨n2, rfl, ?_⟩
      rcases h2 with h2 | h2
      · exact plain_mid rfl h.p hp h2
      · exact plain_mid h.l h.q hq h2
  obtain ⟨n3, rfl, h3⟩ := this
  have l3 := h3.1
  simp -implicitDefEqProofs -dsimp [gi_at (show at' < n3.length by omega)]
  have g3 := h3.2 _ (gi_mem (show at' < n3.length by omega))
  refine ask_of ⟨a, b, c, _, _, rfl, rfl, by simp, by simp, fun y hy => ?_⟩
  have : ∃ z : Int, y = .int z ∧ -1 ≤ z ∧ z ≤ 2 := by
    simp only [List.mem_cons, List.not_mem_nil, or_false] at hy
    rcases hy with rfl | rfl | rfl
    · exact ⟨-1, rfl, by omega, by omega⟩
    · exact ⟨1, rfl, by omega, by omega⟩
    · exact ⟨2, rfl, by omega, by omega⟩
  obtain ⟨z, rfl, z0, z1⟩ := this
  have hw : ∀ y, DL.cutD (lI n3) none (some (at' : Int)) ++ (y :: DL.cutD (lI n3) (some ((at' : Int) + 1)) none) = (lI n3).set at' y := fun y => by
    have := cut_put (xs := lI n3) (n := at') (y := y) (by simp; omega)
    simpa only [List.append_assoc, List.singleton_append] using this
  simp only [lI] at hw
  simp -implicitDefEqProofs -dsimp [hw]
  have e1 : (DL.cutD (lI n3) none (some ↑at')).length ≤ 1000 := by rw [cutD_take]; simp; omega
  have e2 : (DL.cutD (lI n3) (some (↑at' + 1)) none).length ≤ 1000 := by rw [cutD_drop1]; simp; omega
  refine ⟨by omega, by omega, ?_⟩
  rw [← List.map_set]
  refine k _ ⟨by simpa using l3, fun x hx => ?_⟩ _ _
  rcases List.mem_or_eq_of_mem_set hx with q | q
  · have := h3.2 x q; omega
  · subst q
    split <;> omega
theorem rd_Lbox_for {E : DEnds} {a b c : Addr} {p q : List Int} {m v : Int} {c4 c5 c6 c7 c8 : Cell} {u : Stop E} {xs : List PyData} (h : Pr p q) (hp : ∀ x ∈ p, x < 2 ^ 20) (hq : ∀ x ∈ q, x < 2 ^ 20) (m0 : 0 < m) (m1 : m < 2 ^ 60)
    (k0 : ∀ ns, Mid (2 ^ 62) p ns → vol ns ≤ v → ∀ c4 c5 c7 c8, E.rt (tI ns) [.dk a b c, .d (prD p q), .d (.int m), .d (.int v), c4, c5, .d (tI ns), c7, c8])
    (k1 : ∀ c4 c5 c6 c7 c8, E.nx [.dk a b c, .d (prD p q), .d (.int m), .d (.int v), c4, c5, c6, c7, c8]) :
    forC (gN 4) w_Lbox_7 xs [.dk a b c, .d (prD p q), .d (.int m), .d (.int v), c4, c5, c6, c7, c8] E u := by
  refine for_inv (fun _ δ => ∃ c4 c5 c6 c7 c8, δ = [.dk a b c, .d (prD p q), .d (.int m), .d (.int v), c4, c5, c6, c7, c8]) (fun _ => False) (fun x δ => ∃ ns c4 c5 c7 c8, x = tI ns ∧ Mid (2 ^ 62) p ns ∧ vol ns ≤ v ∧ δ = [.dk a b c, .d (prD p q), .d (.int m), .d (.int v), c4, c5, .d (tI ns), c7, c8]) ⟨_, _, _, _, _, rfl⟩ ?_ (fun _ h => h.elim) ?_ ?_
  · rintro δ ⟨c4, c5, c6, c7, c8, rfl⟩
    exact k1 _ _ _ _ _
  · rintro x δ ⟨ns, c4, c5, c7, c8, rfl, hm, hv, rfl⟩
    exact k0 ns hm hv _ _ _ _
  · rintro x xs δ ⟨c4, c5, c6, c7, c8, rfl⟩ K B T hK _ hT
    have l0 := h.l0
    have l1 := h.l1
    simp -implicitDefEqProofs -dsimp [w_Lbox_7]
    refine ask_draw (by omega) (by omega) fun way w0 w1 => ?_
    (try simp -implicitDefEqProofs -dsimp)
    refine ask_of ⟨a, b, c, _, m, rfl, by omega, by omega, m0, by omega, fun ns hl hn => ?_⟩
    have ns0 : Mid (2 ^ 62) p ns := ⟨by omega, fun x hx => by have := hn x hx; omega⟩
    have last : ∀ ns, Mid (2 ^ 62) p ns → ∀ c7 c8, w_Lbox_t1 { nx := K, rt := T, bk := B, ct := K } [.dk a b c, .d (prD p q), .d (.int m), .d (.int v), .d x, .d (.int way), .d (tI ns), c7, c8] := fun ns hn c7 c8 =>
      rd_Lbox_t1 hn (fun hv => hT _ _ ⟨ns, _, _, _, _, rfl, hn, hv, rfl⟩) (hK _ ⟨_, _, _, _, _, rfl⟩)
    (try simp -implicitDefEqProofs -dsimp)
    split
    · rename_i e
      have e : way = 0 := by omega
      subst e
      simp -implicitDefEqProofs -dsimp [w_Lbox_5]
      refine ask_of ⟨a, b, c, p, q, 3, rfl, h, by omega, by omega, fun n1 h1 => ?_⟩
      have m1 := cut_mid h hp hq h1
      simp -implicitDefEqProofs -dsimp [w_Lbox_t3, w_Lbox_t2]
      exact last n1 ⟨m1.1, fun x hx => by have := m1.2 x hx; omega⟩ _ _
    simp -implicitDefEqProofs -dsimp [w_Lbox_t3]
    split
    · rename_i e
      have e : way = 1 := by omega
      subst e
      simp -implicitDefEqProofs -dsimp [w_Lbox_3]
      refine ask_of ⟨a, b, c, p, q, 3, rfl, h, by omega, by omega, fun n1 h1 => ?_⟩
      have m1 : Mid (2 ^ 50) p n1 := by
        rcases h1 with h1 | h1
        · exact plain_mid rfl h.p hp h1
        · exact plain_mid h.l h.q hq h1
      simp -implicitDefEqProofs -dsimp [w_Lbox_t2]
      exact last n1 ⟨m1.1, fun x hx => by have := m1.2 x hx; omega⟩ _ _
    simp -implicitDefEqProofs -dsimp [w_Lbox_t2]
    split
    · exact rd_Lbox_1 h hp hq ns0 fun ns' hn' c7 c8 => last ns' hn' c7 c8
    · exact last ns ns0 _ _
theorem vol_ones : ∀ n : Nat, vol (List.replicate n 1) = 1
  | 0 => rfl
  | n + 1 => by rw [List.replicate_succ, vol_cons, vol_ones n]; rfl
theorem rep_one (n : Nat) : (List.replicate n [PyData.int 1]).flatten = lI (List.replicate n 1) := by
  induction n with
  | zero => rfl
  | succ n ih => simp [List.replicate_succ]
theorem rd_Lbox : ∀ cs R, sp_Lbox cs R → w_Lbox (endsOf cs R) (start0 9 cs) := by
  rintro _ R ⟨a, b, c, p, q, m, v, rfl, h, hp, hq, m0, m1, v1, hR⟩
  have l0 := h.l0
  have l1 := h.l1
  simp -implicitDefEqProofs -dsimp [w_Lbox]
  refine rd_Lbox_for h hp hq m0 m1 (fun ns hn hv c4 c5 c7 c8 => ?_) (fun c4 c5 c6 c7 c8 => ?_)
  · (try simp -implicitDefEqProofs -dsimp)
    exact hR ns hn.1 (vol_in (fun x hx => (hn.2 x hx).1) hv) hv
  · simp -implicitDefEqProofs -dsimp [w_Lbox_t4, rep_one]
    refine ⟨by omega, ?_⟩
    have := hR (List.replicate p.length 1) (by simp) (fun x hx => by rw [List.eq_of_mem_replicate hx]; omega) (by rw [vol_ones]; exact v1)
    simpa [tI, lI] using this
end TW
set_option Elab.async false
set_option linter.all false
set_option maxRecDepth 100000
set_option maxHeartbeats 4000000
namespace TW
open PySem PySem.Spec PyProof.Rows L2 DL
theorem rests_nil {a bx : List Int} : restsF a bx = [] ↔ ∀ i, i < bx.length → gi a i ∣ gi bx i := by
  rw [List.eq_nil_iff_forall_not_mem]
  constructor
  · intro h i hi
    have := h i
    rw [mem_rests] at this
    by_cases c : gi bx i % gi a i = 0
    · exact Int.dvd_of_emod_eq_zero c
    · exact absurd ⟨hi, c⟩ this
  · intro h i hm
    rw [mem_rests] at hm
    exact hm.2 (Int.emod_eq_zero_of_dvd (h i hm.1))
/-- one brick divides all, or both divide all but one side, which is a sum -/
def Fill (a b bx : List Int) : Prop := (∀ i, i < bx.length → gi a i ∣ gi bx i) ∨ (∀ i, i < bx.length → gi b i ∣ gi bx i) ∨
  ∃ ax, ax < bx.length ∧ (∀ i, i < bx.length → i ≠ ax → gi a i ∣ gi bx i ∧ gi b i ∣ gi bx i) ∧ isSum (gi a ax) (gi b ax) (gi bx ax) = true
theorem nodup_sing {l : List Nat} {ax : Nat} (hn : l.Nodup) (h0 : l ≠ []) (h : ∀ i ∈ l, i = ax) : l = [ax] := by
  cases l with
  | nil => exact absurd rfl h0
  | cons x l =>
    have hx := h x (List.mem_cons_self ..)
    subst hx
    cases l with
    | nil => rfl
    | cons y l =>
      have := h y (by simp)
      subst this
      simp at hn
theorem fillB_iff {a b bx : List Int} : fillB a b bx = true ↔ Fill a b bx := by
  unfold fillB Fill
  rw [← rests_nil, ← rests_nil]
  simp only [Bool.or_eq_true, Bool.and_eq_true, decide_eq_true_eq, List.isEmpty_iff]
  constructor
  · rintro ((h | h) | ⟨⟨h1, h2⟩, h3⟩)
    · exact .inl h
    · exact .inr (.inl h)
    · obtain ⟨ax, hax⟩ := List.length_eq_one_iff.mp h2
      rw [hax] at h3
      have hm := mem_rests.mp (show ax ∈ restsF a bx by rw [hax]; simp)
      refine .inr (.inr ⟨ax, hm.1, fun i hi hne => ?_, h3⟩)
      have n1 : i ∉ restsF a bx := by rw [hax]; simpa using hne
      have n2 : i ∉ restsF b bx := by rw [← h1]; exact n1
      rw [mem_rests] at n1 n2
      exact ⟨Int.dvd_of_emod_eq_zero (Classical.byContradiction fun c => n1 ⟨hi, c⟩), Int.dvd_of_emod_eq_zero (Classical.byContradiction fun c => n2 ⟨hi, c⟩)⟩
  · rintro (h | h | ⟨ax, hax, h1, h2⟩)
    · exact .inl (.inl h)
    · exact .inl (.inr h)
    · by_cases ea : restsF a bx = []
      · exact .inl (.inl ea)
      by_cases eb : restsF b bx = []
      · exact .inl (.inr eb)
      have q1 := nodup_sing (rests_nodup a bx) ea fun i hi => Classical.byContradiction fun c => (mem_rests.mp hi).2 (Int.emod_eq_zero_of_dvd (h1 i (mem_rests.mp hi).1 c).1)
      have q2 := nodup_sing (rests_nodup b bx) eb fun i hi => Classical.byContradiction fun c => (mem_rests.mp hi).2 (Int.emod_eq_zero_of_dvd (h1 i (mem_rests.mp hi).1 c).2)
      exact .inr ⟨⟨by rw [q1, q2], by rw [q1]; rfl⟩, by rw [q1]; exact h2⟩
theorem isSum_l {a b s : Int} (ha : 1 ≤ a) (hb : 1 ≤ b) (hs : 0 ≤ s) (h : a ∣ s) : isSum a b s = true := by
  rw [isSum_iff ha hb]
  obtain ⟨k, rfl⟩ := h
  refine ⟨k, 0, ?_, by omega, by omega⟩
  by_cases c : 0 ≤ k
  · exact c
  · have : a * k ≤ a * (-1) := Int.mul_le_mul_of_nonneg_left (by omega) (by omega)
    omega
theorem isSum_r {a b s : Int} (ha : 1 ≤ a) (hb : 1 ≤ b) (hs : 0 ≤ s) (h : b ∣ s) : isSum a b s = true := by
  rw [isSum_iff ha hb]
  obtain ⟨k, rfl⟩ := h
  refine ⟨0, k, by omega, ?_, by omega⟩
  by_cases c : 0 ≤ k
  · exact c
  · have : b * k ≤ b * (-1) := Int.mul_le_mul_of_nonneg_left (by omega) (by omega)
    omega
theorem isSum_0 {a b : Int} (ha : 1 ≤ a) (hb : 1 ≤ b) : isSum a b 0 = true := isSum_l ha hb (by omega) ⟨0, by omega⟩
end TW
set_option Elab.async false
set_option linter.all false
set_option maxRecDepth 100000
set_option maxHeartbeats 4000000
namespace TW
open PySem PySem.Spec PyProof.Rows L2 DL
@[simp] theorem endsM_nx (i : Nat) (cs : List Cell) (R : Cell → List Cell → Prop) (δ : DS) : (endsM i cs R).nx δ = (sameIo cs δ ∧ cs.length ≤ i ∧ ∃ a xs, δ[i]? = some (.ol a xs) ∧ R (.ol a xs) (outC cs δ)) := rfl
end TW
set_option Elab.async false
set_option linter.all false
set_option maxRecDepth 100000
set_option maxHeartbeats 4000000
namespace TW
open PySem PySem.Spec PyProof.Rows L2 DL
end TW
set_option Elab.async false
set_option linter.all false
set_option maxRecDepth 100000
set_option maxHeartbeats 4000000
namespace TW
open PySem PySem.Spec PyProof.Rows L2 DL
end TW
set_option Elab.async false
set_option linter.all false
set_option maxRecDepth 100000
set_option maxHeartbeats 4000000
namespace TW
open PySem PySem.Spec PyProof.Rows L2 DL
/-- no list that is made on the way is too long -/
def CellsOk (ns : List Int) : Prop := (∀ x ∈ ns, 0 ≤ x) ∧ ∀ k, k ≤ ns.length → vol (ns.take k) ≤ 1000000
end TW
set_option Elab.async false
set_option linter.all false
set_option maxRecDepth 100000
set_option maxHeartbeats 4000000
namespace TW
open PySem PySem.Spec PyProof.Rows L2 DL
theorem vol_pre {as bs : List Int} (h : ∀ x ∈ as ++ bs, 1 ≤ x) : vol as ≤ vol (as ++ bs) := by
  have e : vol (as ++ bs) = vol as * vol bs := by
    induction as with
    | nil => rw [List.nil_append]; show _ = 1 * _; omega
    | cons a as ih =>
      rw [List.cons_append, vol_cons, vol_cons, ih fun x hx => h x (by simp at hx ⊢; exact .inr hx), Int.mul_assoc]
  rw [e]
  have a1 := vol_pos (ns := as) fun x hx => h x (by simp [hx])
  have b1 := vol_pos (ns := bs) fun x hx => h x (by simp [hx])
  have := Int.mul_le_mul_of_nonneg_left b1 (show 0 ≤ vol as by omega)
  omega
theorem CellsOk.of {ns : List Int} (h1 : ∀ x ∈ ns, 1 ≤ x) (h2 : vol ns ≤ 1000000) : CellsOk ns := ⟨fun x hx => by have := h1 x hx; omega, fun k _ => by
  have := vol_pre (as := ns.take k) (bs := ns.drop k) fun x hx => h1 x (by rwa [List.take_append_drop] at hx)
  rw [List.take_append_drop] at this
  omega⟩
end TW
set_option Elab.async false
set_option linter.all false
set_option maxRecDepth 100000
set_option maxHeartbeats 4000000
namespace TW
open PySem PySem.Spec PyProof.Rows L2 DL
def sp_Lwith : DSp := fun cs R => ∃ (ds : List PyData) (i : Nat) (d : PyData), cs = [.d (.tuple ds), .d (.int (i : Int)), .d d] ∧ i < ds.length ∧ ds.length ≤ 100000 ∧ R (.tuple (ds.set i d)) cs
def w_Lwith : DTS := (wRet (wOp pAddB (wOp pAddB (wSl pSl (wVar 0) wNoP (wPart (wVar 1))) (wTup (wCons (wVar 2) wNil))) (wSl pSl (wVar 0) (wPart (wOp pAddB (wVar 1) (wC (.int 1)))) wNoP)))
theorem ln_Lwith : ∀ cs R, sp_Lwith cs R → cs.length = 3 := by
  intro cs R h
  unfold sp_Lwith at h
  repeat (obtain ⟨_, h⟩ := h)
  subst_vars; rfl
end TW
set_option Elab.async false
set_option linter.all false
set_option maxRecDepth 100000
set_option maxHeartbeats 4000000
namespace TW
open PySem PySem.Spec PyProof.Rows L2 DL
theorem rd_Lwith : ∀ cs R, sp_Lwith cs R → w_Lwith (endsOf cs R) (start0 3 cs) := by
  rintro _ R ⟨ds, i, d, rfl, hi, hl, hR⟩
  have e := cut_put (y := d) hi
  rw [List.append_assoc, List.singleton_append] at e
  simp -implicitDefEqProofs -dsimp [w_Lwith, e]
  have l1 : (DL.cutD ds none (some (i : Int))).length ≤ 100000 := by rw [cutD_take]; simp; omega
  have l2 : (DL.cutD ds (some ((i : Int) + 1)) none).length ≤ 100000 := by rw [cutD_drop1]; simp; omega
  exact ⟨by omega, by omega, hR⟩
end TW
set_option Elab.async false
set_option linter.all false
set_option maxRecDepth 100000
set_option maxHeartbeats 4000000
namespace TW
open PySem PySem.Spec PyProof.Rows L2 DL
def wholeB (lo hi : Int) : PyData → Bool
  | .int i => decide (lo ≤ i) && decide (i ≤ hi)
  | _ => false
def sp_is_integer : DSp := fun cs R => ∃ d lo hi, cs = [.d d, .d (.int lo), .d (.int hi)] ∧ R (.bool (wholeB lo hi d)) [.d d, .d (.int lo), .d (.int hi)]
def w_is_integer : DTS := (wRet (wAndV (wIsi "int" (wVar 0)) (wAndV (wNotV (wIsi "bool" (wVar 0))) (wChain pLe pLe (wVar 1) (wVar 0) (wVar 2)))))
theorem ln_is_integer : ∀ cs R, sp_is_integer cs R → cs.length = 3 := by
  intro cs R h
  unfold sp_is_integer at h
  repeat (obtain ⟨_, h⟩ := h)
  subst_vars; rfl
end TW
set_option Elab.async false
set_option linter.all false
set_option maxRecDepth 100000
set_option maxHeartbeats 4000000
namespace TW
open PySem PySem.Spec PyProof.Rows L2 DL
@[simp] theorem isTy_int_i (i : Int) : isTy "int" (.int i) = true := by rw [isTy, tyName]; decide
@[simp] theorem isTy_int_b (i : Bool) : isTy "int" (.bool i) = true := by rw [isTy, tyName]; decide
@[simp] theorem isTy_int_n : isTy "int" .none = false := by rw [isTy, tyName]; decide
@[simp] theorem isTy_int_s (i : Str) : isTy "int" (.str i) = false := by rw [isTy, tyName]; decide
@[simp] theorem isTy_int_l (i : List PyData) : isTy "int" (.list i) = false := by rw [isTy, tyName]; decide
@[simp] theorem isTy_int_t (i : List PyData) : isTy "int" (.tuple i) = false := by rw [isTy, tyName]; decide
@[simp] theorem isTy_int_d (i : List (PyData × PyData)) : isTy "int" (.dict i) = false := by cases i <;> (rw [isTy, tyName]; decide)
@[simp] theorem isTy_bool_i (i : Int) : isTy "bool" (.int i) = false := by rw [isTy, tyName]; decide
@[simp] theorem isTy_bool_b (i : Bool) : isTy "bool" (.bool i) = true := by rw [isTy, tyName]; decide
@[simp] theorem isTy_bool_n : isTy "bool" .none = false := by rw [isTy, tyName]; decide
@[simp] theorem isTy_bool_s (i : Str) : isTy "bool" (.str i) = false := by rw [isTy, tyName]; decide
@[simp] theorem isTy_bool_l (i : List PyData) : isTy "bool" (.list i) = false := by rw [isTy, tyName]; decide
@[simp] theorem isTy_bool_t (i : List PyData) : isTy "bool" (.tuple i) = false := by rw [isTy, tyName]; decide
@[simp] theorem isTy_bool_d (i : List (PyData × PyData)) : isTy "bool" (.dict i) = false := by cases i <;> (rw [isTy, tyName]; decide)
@[simp] theorem isTy_tuple_i (i : Int) : isTy "tuple" (.int i) = false := by rw [isTy, tyName]; decide
@[simp] theorem isTy_tuple_b (i : Bool) : isTy "tuple" (.bool i) = false := by rw [isTy, tyName]; decide
@[simp] theorem isTy_tuple_n : isTy "tuple" .none = false := by rw [isTy, tyName]; decide
@[simp] theorem isTy_tuple_s (i : Str) : isTy "tuple" (.str i) = false := by rw [isTy, tyName]; decide
@[simp] theorem isTy_tuple_l (i : List PyData) : isTy "tuple" (.list i) = false := by rw [isTy, tyName]; decide
@[simp] theorem isTy_tuple_t (i : List PyData) : isTy "tuple" (.tuple i) = true := by rw [isTy, tyName]; decide
@[simp] theorem isTy_tuple_d (i : List (PyData × PyData)) : isTy "tuple" (.dict i) = false := by cases i <;> (rw [isTy, tyName]; decide)
@[simp] theorem isTy_str_i (i : Int) : isTy "str" (.int i) = false := by rw [isTy, tyName]; decide
@[simp] theorem isTy_str_b (i : Bool) : isTy "str" (.bool i) = false := by rw [isTy, tyName]; decide
@[simp] theorem isTy_str_n : isTy "str" .none = false := by rw [isTy, tyName]; decide
@[simp] theorem isTy_str_s (i : Str) : isTy "str" (.str i) = true := by rw [isTy, tyName]; decide
@[simp] theorem isTy_str_l (i : List PyData) : isTy "str" (.list i) = false := by rw [isTy, tyName]; decide
@[simp] theorem isTy_str_t (i : List PyData) : isTy "str" (.tuple i) = false := by rw [isTy, tyName]; decide
@[simp] theorem isTy_str_d (i : List (PyData × PyData)) : isTy "str" (.dict i) = false := by cases i <;> (rw [isTy, tyName]; decide)
theorem rd_is_integer : ∀ cs R, sp_is_integer cs R → w_is_integer (endsOf cs R) (start0 3 cs) := by
  rintro _ R ⟨d, lo, hi, rfl, hR⟩
  cases d with
  | int i =>
    simp -implicitDefEqProofs -dsimp [w_is_integer]
    have hR : R (.bool (decide (lo ≤ i) && decide (i ≤ hi))) [.d (.int i), .d (.int lo), .d (.int hi)] := hR
    by_cases h : lo ≤ i
    · rw [if_pos h]
      simpa [h] using hR
    · rw [if_neg h]
      simpa [h] using hR
  | bool b => simp -implicitDefEqProofs -dsimp [w_is_integer]; exact hR
  | none => simp -implicitDefEqProofs -dsimp [w_is_integer]; exact hR
  | str z => simp -implicitDefEqProofs -dsimp [w_is_integer]; exact hR
  | list z => simp -implicitDefEqProofs -dsimp [w_is_integer]; exact hR
  | tuple z => simp -implicitDefEqProofs -dsimp [w_is_integer]; exact hR
  | dict z => simp -implicitDefEqProofs -dsimp [w_is_integer]; exact hR
end TW
set_option Elab.async false
set_option linter.all false
set_option maxRecDepth 100000
set_option maxHeartbeats 4000000
namespace TW
open PySem PySem.Spec PyProof.Rows L2 DL
end TW
set_option Elab.async false
set_option linter.all false
set_option maxRecDepth 100000
set_option maxHeartbeats 4000000
namespace TW
open PySem PySem.Spec PyProof.Rows L2 DL
theorem ask_with {bx : List Int} {ax : Nat} {s : Int} {K : PyData → List Cell → Prop} {u : Stop K} (hx : ax < bx.length) (l1 : bx.length ≤ 1000) (k : K (tI (bx.set ax s)) [.d (tI bx), .d (.int (ax : Int)), .d (.int s)]) : ask sp_Lwith [.d (tI bx), .d (.int (ax : Int)), .d (.int s)] K u :=
  ⟨lI bx, ax, .int s, rfl, by simpa using hx, by simp; omega, by
    have e : (lI bx).set ax (.int s) = lI (bx.set ax s) := by unfold lI; rw [List.map_set]
    rw [e]; exact k⟩
theorem PB.swap {a b bx : List Int} (h : PB a b bx) : PB b a bx := ⟨h.lb, h.la, h.l0, h.l1, h.pb, h.pa, h.px⟩
section
variable {a b bx : List Int} {E : DEnds} {w : Str} {ns : List Int}
/-- where an answer is given, with whatever else stands in the slots -/
def Ans (E : DEnds) (a b bx : List Int) (w : Str) (ns : List Int) (P : Prop) : Prop := ∀ c : Bool, (c = true ↔ P) → ∀ c3 c4 c5 c6 c7, E.rt (.bool c) [.d (prD a b), .d (tI bx), .d (.tuple (.str w :: lI ns)), c3, c4, c5, c6, c7]
theorem Ans.no {P : Prop} (h : Ans E a b bx w ns P) (q : ¬ P) : ∀ c3 c4 c5 c6 c7, E.rt (.bool false) [.d (prD a b), .d (tI bx), .d (.tuple (.str w :: lI ns)), c3, c4, c5, c6, c7] := h false (by simpa using q)
theorem Ans.of {P Q : Prop} (h : Ans E a b bx w ns P) (q : Q ↔ P) : Ans E a b bx w ns Q := fun c hc => h c (hc.trans q)
end
end TW
set_option Elab.async false
set_option linter.all false
set_option maxRecDepth 100000
set_option maxHeartbeats 4000000
namespace TW
open PySem PySem.Spec PyProof.Rows L2 DL
/-- pairs of small sides -/
structure Pq9 (p q : List Int) : Prop where
  l : q.length = p.length
  l0 : 0 < p.length
  l1 : p.length ≤ 4
  p : ∀ x ∈ p, 1 ≤ x ∧ x ≤ 1000
  q : ∀ x ∈ q, 1 ≤ x ∧ x ≤ 1000
end TW
set_option Elab.async false
set_option linter.all false
set_option maxRecDepth 100000
set_option maxHeartbeats 4000000
namespace TW
open PySem PySem.Spec PyProof.Rows L2 DL
theorem In.snoc {m y : Int} {ns : List Int} (h : In m ns) (h0 : 1 ≤ y) (h1 : y ≤ m) : In m (ns ++ [y]) := fun x hx => by
  rcases List.mem_append.mp hx with q | q
  · exact h x q
  · rw [List.mem_singleton.mp q]; exact ⟨h0, h1⟩
end TW
set_option Elab.async false
set_option linter.all false
set_option maxRecDepth 100000
set_option maxHeartbeats 4000000
namespace TW
open PySem PySem.Spec PyProof.Rows L2 DL
def jointF (a b : Int) : Int := a / gcdI a b * b
def sp_joint : DSp := fun cs R => ∃ a b, cs = [.d (.int a), .d (.int b)] ∧ Pos a ∧ Pos b ∧ R (.int (jointF a b)) cs
def sp_is_sum : DSp := fun cs R => ∃ a b s, cs = [.d (.int a), .d (.int b), .d (.int s)] ∧ Pos a ∧ Pos b ∧ -BIG ≤ s ∧ s ≤ BIG ∧ R (.bool (isSum a b s)) cs
/-- which sides fit -/
inductive Way
  | non
  | steps (k : Int)
  | sums (l h : Int)
def Way.d : Way → PyData
  | .non => .tuple [.str "none"]
  | .steps k => .tuple [.str "steps", .int k]
  | .sums l h => .tuple [.str "sums", .int l, .int h]
def Way.fits : Way → Int → Bool
  | .non, _ => false
  | .steps k, s => decide (s % k = 0)
  | .sums l h, s => isSum l h s
def sumsW (x y : Int) : Way := if max x y % min x y = 0 then .steps (min x y) else .sums (min x y) (max x y)
def sp_sums_of : DSp := fun cs R => ∃ a b, cs = [.d (.int a), .d (.int b)] ∧ Pos a ∧ Pos b ∧ R (sumsW a b).d cs
/-- the other axes that are not divided -/
def restsX (br bx : List Int) (ax : Nat) : List Nat := (List.range bx.length).filter fun i => !decide (i = ax) && !decide (gi bx i % gi br i = 0)
def sp_restsA : DSp := fun cs R => ∃ (br bx : List Int) (ax : Nat), cs = [.d (tI br), .d (tI bx), .d (.int (ax : Int))] ∧ bx.length ≤ br.length ∧ (∀ x ∈ br, 1 ≤ x) ∧ R (.list (lN (restsX br bx ax))) cs
def wayF (a b bx : List Int) (ax : Nat) : Way :=
  if restsX a bx ax = [] then (if restsX b bx ax = [] then sumsW (gi a ax) (gi b ax) else .steps (gi a ax))
  else if restsX b bx ax = [] then .steps (gi b ax)
  else if restsX a bx ax = restsX b bx ax ∧ (restsX a bx ax).length = 1 ∧ isSum (gi a ((restsX a bx ax).headD 0)) (gi b ((restsX a bx ax).headD 0)) (gi bx ((restsX a bx ax).headD 0)) = true then .steps (jointF (gi a ax) (gi b ax))
  else .non
def sp_along : DSp := fun cs R => ∃ a b bx ax, cs = [.d (prD a b), .d (tI bx), .d (.int (ax : Nat))] ∧ PB a b bx ∧ ax < bx.length ∧ R (wayF a b bx ax).d cs
def sp_Ltask : DSp := fun cs R => ∃ a b c, cs = [.dk a b c] ∧ ∀ (p q bx : List Int) (ax : Nat), q.length = p.length → bx.length = p.length → p.length ≤ 4 → ax < p.length → In 7 p → In 7 q → In (10 ^ 6) bx → R (.tuple [prD p q, tI bx, .int (ax : Nat)]) [.dk a b c]
def sp_Lfar_sum : DSp := fun cs R => ∃ s a b : Int, cs = [.d (.int s), .d (.int a), .d (.int b)] ∧ 0 ≤ s ∧ s ≤ 10 ^ 60 ∧ 1 ≤ a ∧ a ≤ 1000 ∧ 1 ≤ b ∧ b ≤ 1000 ∧ R (.bool (isSum a b s)) cs
def sp_Lfar_filled : DSp := fun cs R => ∃ a b bx, cs = [.d (prD a b), .d (tI bx)] ∧ PB a b bx ∧ In 1000 a ∧ In 1000 b ∧ In (10 ^ 60) bx ∧ R (.bool (fillB a b bx)) cs
/-- the sides up to a bound that fit -/
def fitL (w : Way) (m : Int) : List Int := ((List.range m.toNat).map fun (i : Nat) => 1 + (i : Int)).filter w.fits
def sp_Lfitting : DSp := fun cs R => ∃ a b bx ax m, cs = [.d (prD a b), .d (tI bx), .d (.int (ax : Nat)), .d (.int m)] ∧ PB a b bx ∧ In 1000 a ∧ In 1000 b ∧ In (10 ^ 60) bx ∧ ax < bx.length ∧ 0 ≤ m ∧ m ≤ 100000 ∧ R (.list (lI (fitL (wayF a b bx ax) m))) cs
def gapF : Way → PyData
  | .steps k => if k = 1 then .int 0 else .none
  | .sums l h => if gcdI l h = 1 then .int (l * h - l - h) else .none
  | .non => .none
def tailF : Way → PyData
  | .steps k => .tuple [.int 1, .int k]
  | .sums l h => .tuple [.int (jointF l h - l - h + 1), .int (gcdI l h)]
  | .non => .tuple [.int 1, .int 1]
def w_joint : DTS := (wRet (wOp pMulT (wOp pDiv (wVar 0) (wCall [] sp_common (wCons (wVar 0) (wCons (wVar 1) wNil)))) (wVar 1)))
def w_is_sum_s1 : DTS := (wRet (wAndV (wOp pIsNot (wVar 3) (wC .none)) (wOp pLe (wOp pMulT (wVar 0) (wVar 3)) (wVar 2))))
@[simp ↓] theorem w_is_sum_s1_ap (E : DEnds) (δ : DS) : w_is_sum_s1 E δ = (wRet (wAndV (wOp pIsNot (wVar 3) (wC .none)) (wOp pLe (wOp pMulT (wVar 0) (wVar 3)) (wVar 2)))) E δ := rfl
def w_is_sum : DTS := (wSeq (wSet 3 (mE (wCall [] sp_least_times (wCons (wVar 0) (wCons (wVar 1) (wCons (wVar 2) wNil)))))) w_is_sum_s1)
def w_sums_of_s1 : DTS := (wRet (wIfE (wB (wOp pEq (wOp pMod (wVar 3) (wVar 2)) (wC (.int 0)))) (wTup (wCons (wC (.str "steps")) (wCons (wVar 2) wNil))) (wTup (wCons (wC (.str "sums")) (wCons (wVar 2) (wCons (wVar 3) wNil))))))
@[simp ↓] theorem w_sums_of_s1_ap (E : DEnds) (δ : DS) : w_sums_of_s1 E δ = (wRet (wIfE (wB (wOp pEq (wOp pMod (wVar 3) (wVar 2)) (wC (.int 0)))) (wTup (wCons (wC (.str "steps")) (wCons (wVar 2) wNil))) (wTup (wCons (wC (.str "sums")) (wCons (wVar 2) (wCons (wVar 3) wNil)))))) E δ := rfl
def w_sums_of : DTS := (wSeq (wPar2 2 3 (msCons (mE (wFn pMin2 (wCons (wVar 0) (wCons (wVar 1) wNil)))) (msCons (mE (wFn pMax2 (wCons (wVar 0) (wCons (wVar 1) wNil)))) msNil))) w_sums_of_s1)
def w_restsA : DTS := (wRet (wOfL (wComp (iEnumD (wCons (wVar 1) wNil)) (gT (gsCons (gN 3) (gsCons (gN 4) gsNil))) (wAnd (wB (wOp pNe (wVar 3) (wVar 2))) (wB (wOp pNe (wOp pMod (wVar 4) (wOp pIx (wVar 0) (wVar 3))) (wC (.int 0))))) (wVar 3) [3, 4])))
def w_along_1 : DTS := (wRet (wTup (wCons (wC (.str "steps")) (wCons (wCall [] sp_joint (wCons (wVar 3) (wCons (wVar 4) wNil))) wNil))))
def w_along_t1 : DTS := (wRet (wTup (wCons (wC (.str "none")) wNil)))
def w_along_3 : DTS := (wRet (wTup (wCons (wC (.str "steps")) (wCons (wIfE (wB (wOp pEq (wVar 5) (wOfL (wLst wNil)))) (wVar 3) (wVar 4)) wNil))))
def w_along_t2 : DTS := (wSeq (wIf (wAnd (wB (wOp pEq (wVar 5) (wVar 6))) (wAnd (wB (wOp pEq (wFn pLen (wCons (wVar 5) wNil)) (wC (.int 1)))) (wB (wCall [] sp_is_sum (wCons (wOp pIx (wOp pIx (wVar 0) (wC (.int 0))) (wOp pIx (wVar 5) (wC (.int 0)))) (wCons (wOp pIx (wOp pIx (wVar 0) (wC (.int 1))) (wOp pIx (wVar 5) (wC (.int 0)))) (wCons (wOp pIx (wVar 1) (wOp pIx (wVar 5) (wC (.int 0)))) wNil))))))) w_along_1 wNext) w_along_t1)
def w_along_5 : DTS := (wRet (wCall [] sp_sums_of (wCons (wVar 3) (wCons (wVar 4) wNil))))
def w_along_t3 : DTS := (wSeq (wIf (wOr (wB (wOp pEq (wVar 5) (wOfL (wLst wNil)))) (wB (wOp pEq (wVar 6) (wOfL (wLst wNil))))) w_along_3 wNext) w_along_t2)
def w_along_s1 : DTS := (wSeq (wIf (wAnd (wB (wOp pEq (wVar 5) (wOfL (wLst wNil)))) (wB (wOp pEq (wVar 6) (wOfL (wLst wNil))))) w_along_5 wNext) w_along_t3)
@[simp ↓] theorem w_along_s1_ap (E : DEnds) (δ : DS) : w_along_s1 E δ = (wSeq (wIf (wAnd (wB (wOp pEq (wVar 5) (wOfL (wLst wNil)))) (wB (wOp pEq (wVar 6) (wOfL (wLst wNil))))) w_along_5 wNext) w_along_t3) E δ := rfl
def w_along_s2 : DTS := (wSeq (wPar2 5 6 (msCons (mE (wCall [] sp_restsA (wCons (wOp pIx (wVar 0) (wC (.int 0))) (wCons (wVar 1) (wCons (wVar 2) wNil))))) (msCons (mE (wCall [] sp_restsA (wCons (wOp pIx (wVar 0) (wC (.int 1))) (wCons (wVar 1) (wCons (wVar 2) wNil))))) msNil))) w_along_s1)
@[simp ↓] theorem w_along_s2_ap (E : DEnds) (δ : DS) : w_along_s2 E δ = (wSeq (wPar2 5 6 (msCons (mE (wCall [] sp_restsA (wCons (wOp pIx (wVar 0) (wC (.int 0))) (wCons (wVar 1) (wCons (wVar 2) wNil))))) (msCons (mE (wCall [] sp_restsA (wCons (wOp pIx (wVar 0) (wC (.int 1))) (wCons (wVar 1) (wCons (wVar 2) wNil))))) msNil))) w_along_s1) E δ := rfl
def w_along : DTS := (wSeq (wPar2 3 4 (msCons (mE (wOp pIx (wOp pIx (wVar 0) (wC (.int 0))) (wVar 2))) (msCons (mE (wOp pIx (wOp pIx (wVar 0) (wC (.int 1))) (wVar 2))) msNil))) w_along_s2)
def w_Ltask_s1 : DTS := (wRet (wTup (wCons (wVar 2) (wCons (wCall [true, false, false, false] sp_Lbox (wCons (wVar 0) (wCons (wVar 2) (wCons (wC (.int 9)) (wCons (wOp pPow (wC (.int 10)) (wC (.int 6))) wNil))))) (wCons (wCall [true, false] sp_Ldraw (wCons (wVar 0) (wCons (wVar 1) wNil))) wNil)))))
@[simp ↓] theorem w_Ltask_s1_ap (E : DEnds) (δ : DS) : w_Ltask_s1 E δ = (wRet (wTup (wCons (wVar 2) (wCons (wCall [true, false, false, false] sp_Lbox (wCons (wVar 0) (wCons (wVar 2) (wCons (wC (.int 9)) (wCons (wOp pPow (wC (.int 10)) (wC (.int 6))) wNil))))) (wCons (wCall [true, false] sp_Ldraw (wCons (wVar 0) (wCons (wVar 1) wNil))) wNil))))) E δ := rfl
def w_Ltask_s2 : DTS := (wSeq (wSet 2 (mE (wCall [true, false, false] sp_Lpair (wCons (wVar 0) (wCons (wVar 1) (wCons (wC (.int 7)) wNil)))))) w_Ltask_s1)
@[simp ↓] theorem w_Ltask_s2_ap (E : DEnds) (δ : DS) : w_Ltask_s2 E δ = (wSeq (wSet 2 (mE (wCall [true, false, false] sp_Lpair (wCons (wVar 0) (wCons (wVar 1) (wCons (wC (.int 7)) wNil)))))) w_Ltask_s1) E δ := rfl
def w_Ltask : DTS := (wSeq (wSet 1 (mE (wOp pAddB (wC (.int 1)) (wCall [true, false] sp_Ldraw (wCons (wVar 0) (wCons (wC (.int 4)) wNil)))))) w_Ltask_s2)
def w_Lfar_sum : DTS := (wRet (wOp pNe (wOfL (wComp (iRange1 (wCons (wVar 2) wNil)) (gN 3) (wAnd (wB (wOp pLe (wOp pMulT (wVar 3) (wVar 1)) (wVar 0))) (wB (wOp pEq (wOp pMod (wFn pInt (wCons (wOp pSubB (wVar 0) (wOp pMulT (wVar 3) (wVar 1))) wNil)) (wVar 2)) (wC (.int 0))))) (wVar 3) [3])) (wOfL (wLst wNil))))
def w_Lfar_filled_t1 : DTS := (wRet (wCall [] sp_Lfar_sum (wCons (wOp pIx (wVar 1) (wOp pIx (wVar 2) (wC (.int 0)))) (wCons (wOp pIx (wOp pIx (wVar 0) (wC (.int 0))) (wOp pIx (wVar 2) (wC (.int 0)))) (wCons (wOp pIx (wOp pIx (wVar 0) (wC (.int 1))) (wOp pIx (wVar 2) (wC (.int 0)))) wNil)))))
def w_Lfar_filled_t2 : DTS := (wSeq (wIf (wOr (wB (wOp pGt (wFn pLen (wCons (wVar 2) wNil)) (wC (.int 1)))) (wB (wOp pNe (wVar 2) (wVar 3)))) (wRet (wC (.bool false))) wNext) w_Lfar_filled_t1)
def w_Lfar_filled_s1 : DTS := (wSeq (wIf (wOr (wB (wOp pEq (wVar 2) (wOfL (wLst wNil)))) (wB (wOp pEq (wVar 3) (wOfL (wLst wNil))))) (wRet (wC (.bool true))) wNext) w_Lfar_filled_t2)
@[simp ↓] theorem w_Lfar_filled_s1_ap (E : DEnds) (δ : DS) : w_Lfar_filled_s1 E δ = (wSeq (wIf (wOr (wB (wOp pEq (wVar 2) (wOfL (wLst wNil)))) (wB (wOp pEq (wVar 3) (wOfL (wLst wNil))))) (wRet (wC (.bool true))) wNext) w_Lfar_filled_t2) E δ := rfl
def w_Lfar_filled : DTS := (wSeq (wPar2 2 3 (msCons (mE (wCall [] sp_Lrests (wCons (wOp pIx (wVar 0) (wC (.int 0))) (wCons (wVar 1) wNil)))) (msCons (mE (wCall [] sp_Lrests (wCons (wOp pIx (wVar 0) (wC (.int 1))) (wCons (wVar 1) wNil)))) msNil))) w_Lfar_filled_s1)
def w_Lfitting : DTS := (wRet (wOfL (wComp (iRange2 (wCons (wC (.int 1)) (wCons (wOp pAddB (wVar 3) (wC (.int 1))) wNil))) (gN 4) (wB (wCall [] sp_Lfar_filled (wCons (wVar 0) (wCons (wCall [] sp_Lwith (wCons (wVar 1) (wCons (wVar 2) (wCons (wVar 4) wNil)))) wNil)))) (wVar 4) [4])))
theorem ln_joint : ∀ cs R, sp_joint cs R → cs.length = 2 := by
  intro cs R h
  unfold sp_joint at h
  repeat (obtain ⟨_, h⟩ := h)
  subst_vars; rfl
theorem ln_is_sum : ∀ cs R, sp_is_sum cs R → cs.length = 3 := by
  intro cs R h
  unfold sp_is_sum at h
  repeat (obtain ⟨_, h⟩ := h)
  subst_vars; rfl
theorem ln_sums_of : ∀ cs R, sp_sums_of cs R → cs.length = 2 := by
  intro cs R h
  unfold sp_sums_of at h
  repeat (obtain ⟨_, h⟩ := h)
  subst_vars; rfl
theorem ln_restsA : ∀ cs R, sp_restsA cs R → cs.length = 3 := by
  intro cs R h
  unfold sp_restsA at h
  repeat (obtain ⟨_, h⟩ := h)
  subst_vars; rfl
theorem ln_along : ∀ cs R, sp_along cs R → cs.length = 3 := by
  intro cs R h
  unfold sp_along at h
  repeat (obtain ⟨_, h⟩ := h)
  subst_vars; rfl
theorem ln_Ltask : ∀ cs R, sp_Ltask cs R → cs.length = 1 := by
  intro cs R h
  unfold sp_Ltask at h
  repeat (obtain ⟨_, h⟩ := h)
  subst_vars; rfl
theorem ln_Lfar_sum : ∀ cs R, sp_Lfar_sum cs R → cs.length = 3 := by
  intro cs R h
  unfold sp_Lfar_sum at h
  repeat (obtain ⟨_, h⟩ := h)
  subst_vars; rfl
theorem ln_Lfar_filled : ∀ cs R, sp_Lfar_filled cs R → cs.length = 2 := by
  intro cs R h
  unfold sp_Lfar_filled at h
  repeat (obtain ⟨_, h⟩ := h)
  subst_vars; rfl
theorem ln_Lfitting : ∀ cs R, sp_Lfitting cs R → cs.length = 4 := by
  intro cs R h
  unfold sp_Lfitting at h
  repeat (obtain ⟨_, h⟩ := h)
  subst_vars; rfl
end TW
set_option Elab.async false
set_option linter.all false
set_option maxRecDepth 100000
set_option maxHeartbeats 4000000
namespace TW
open PySem PySem.Spec PyProof.Rows L2 DL
theorem rd_joint : ∀ cs R, sp_joint cs R → w_joint (endsOf cs R) (start0 2 cs) := by
  rintro _ R ⟨a, b, rfl, ⟨a0, a1⟩, ⟨b0, b1⟩, hR⟩
  obtain ⟨g0, g1⟩ := gcd_le (b := b) a0
  have B := BIG_ge
  obtain ⟨q0, q1⟩ := ediv_abs (x := a) g0 (by omega) (by omega)
  simp -implicitDefEqProofs -dsimp [w_joint]
  refine ask_of (sp := sp_common) ⟨_, _, rfl, by omega, by omega, ?_⟩
  (try simp -implicitDefEqProofs -dsimp)
  exact ⟨div_big (by omega) (by omega), mul_big (by omega) (by omega) (by omega) (by omega), hR⟩
theorem rd_is_sum : ∀ cs R, sp_is_sum cs R → w_is_sum (endsOf cs R) (start0 4 cs) := by
  rintro _ R ⟨a, b, s, rfl, qa, qb, s0, s1, hR⟩
  have a0 := qa.1
  have a1 := qa.2
  unfold isSum at hR
  simp -implicitDefEqProofs -dsimp [w_is_sum]
  refine ask_of (sp := sp_least_times) ⟨_, _, _, rfl, qa, qb, s0, s1, ?_⟩
  cases ht : timesF a b s with
  | none =>
    rw [ht] at hR
    simp -implicitDefEqProofs -dsimp [w_is_sum_s1]
    exact hR
  | some t =>
    rw [ht] at hR
    obtain ⟨t0, t1⟩ := times_big qa qb ht
    simp -implicitDefEqProofs -dsimp [w_is_sum_s1]
    exact ⟨mul_big (by omega) (by omega) (by omega) (by omega), hR⟩
theorem rd_sums_of : ∀ cs R, sp_sums_of cs R → w_sums_of (endsOf cs R) (start0 4 cs) := by
  rintro _ R ⟨a, b, rfl, qa, qb, hR⟩
  have a0 := qa.1
  have b0 := qb.1
  have a1 := qa.2
  have b1 := qb.2
  unfold sumsW at hR
  simp -implicitDefEqProofs -dsimp [w_sums_of, w_sums_of_s1]
  by_cases c : a ≤ b
  · rw [Int.min_eq_left c, Int.max_eq_right c] at hR
    have e1 : (if b < a then b else a) = a := if_neg (by omega)
    have e2 : (if a < b then b else a) = b := by
      by_cases d : a < b
      · exact if_pos d
      · rw [if_neg d]; omega
    rw [e1, e2]
    refine ⟨by omega, ?_⟩
    by_cases z : b % a = 0
    · rw [if_pos z] at hR ⊢; exact hR
    · rw [if_neg z] at hR ⊢; exact hR
  · rw [Int.min_eq_right (by omega), Int.max_eq_left (by omega)] at hR
    have e1 : (if b < a then b else a) = b := if_pos (by omega)
    have e2 : (if a < b then b else a) = a := if_neg (by omega)
    rw [e1, e2]
    refine ⟨by omega, ?_⟩
    by_cases z : a % b = 0
    · rw [if_pos z] at hR ⊢; exact hR
    · rw [if_neg z] at hR ⊢; exact hR
theorem rd_restsA : ∀ cs R, sp_restsA cs R → w_restsA (endsOf cs R) (start0 5 cs) := by
  rintro _ R ⟨br, bx, ax, rfl, hl, hb, hR⟩
  simp -implicitDefEqProofs -dsimp [w_restsA]
  refine com_map (List.range bx.length) _ (numbered_gi _) (fun i => if (!decide (i = ax) && !decide (gi bx i % gi br i = 0)) = true then some (.int (i : Nat)) else none) (fun i hi acc K hK => ?_) ?_
  · have hi := List.mem_range.mp hi
    have p := hb _ (gi_mem (ns := br) (i := i) (by omega))
    simp -implicitDefEqProofs -dsimp [gi_at (ns := br) (i := i) (by omega)]
    by_cases e : i = ax
    · rw [if_pos (by omega)]
      simpa [e] using hK
    · rw [if_neg (by omega)]
      refine ⟨by omega, ?_⟩
      split
      · rename_i z
        simpa [z, e] using hK
      · rename_i z
        simpa [z, e] using hK
  · rw [fm_map]
    (try simp -implicitDefEqProofs -dsimp)
    exact hR
theorem mem_restsX {br bx : List Int} {ax i : Nat} : i ∈ restsX br bx ax ↔ i < bx.length ∧ i ≠ ax ∧ gi bx i % gi br i ≠ 0 := by
  unfold restsX
  rw [List.mem_filter, List.mem_range]
  simp
theorem restsX_nodup (br bx : List Int) (ax : Nat) : (restsX br bx ax).Nodup := List.Pairwise.filter _ List.nodup_range
theorem rd_along : ∀ cs R, sp_along cs R → w_along (endsOf cs R) (start0 7 cs) := by
  rintro _ R ⟨a, b, bx, ax, rfl, h, hx, hR⟩
  obtain ⟨ea, eb, ex, qa, qb, qx⟩ := h.at hx
  simp -implicitDefEqProofs -dsimp [w_along, ea, eb, w_along_s2]
  refine ask_of (sp := sp_restsA) ⟨a, bx, ax, rfl, by have := h.la; omega, fun x hx => (h.pa x hx).1, ?_⟩
  (try simp -implicitDefEqProofs -dsimp)
  refine ask_of (sp := sp_restsA) ⟨b, bx, ax, rfl, by have := h.lb; omega, fun x hx => (h.pb x hx).1, ?_⟩
  simp -implicitDefEqProofs -dsimp [w_along_s1, shaped_nats, eqv_nats, shaped_nil]
  unfold wayF at hR
  by_cases na : restsX a bx ax = []
  · rw [if_pos na] at hR ⊢
    by_cases nb : restsX b bx ax = []
    · rw [if_pos nb] at hR ⊢
      simp -implicitDefEqProofs -dsimp [w_along_5]
      refine ask_of (sp := sp_sums_of) ⟨_, _, rfl, qa, qb, ?_⟩
      (try simp -implicitDefEqProofs -dsimp)
      exact hR
    · rw [if_neg nb] at hR ⊢
      simp -implicitDefEqProofs -dsimp [w_along_t3, shaped_nats, eqv_nats, shaped_nil, na, w_along_3]
      exact hR
  · rw [if_neg na] at hR ⊢
    by_cases nb : restsX b bx ax = []
    · rw [if_pos nb] at hR
      simp -implicitDefEqProofs -dsimp [w_along_t3, shaped_nats, eqv_nats, shaped_nil, na, nb, w_along_3]
      exact hR
    · rw [if_neg nb] at hR
      simp -implicitDefEqProofs -dsimp [w_along_t3, shaped_nats, eqv_nats, eqv_natsA, shaped_nil, na, nb, w_along_t2]
      by_cases h1 : restsX a bx ax = restsX b bx ax
      · rw [if_pos h1]
        by_cases h2 : (restsX a bx ax).length = 1
        · rw [if_pos (by omega)]
          obtain ⟨i, hi⟩ := List.length_eq_one_iff.mp h2
          have hm := (mem_restsX.mp (show i ∈ restsX a bx ax by rw [hi]; simp)).1
          obtain ⟨fa, fb, fx, ra, rb, rx⟩ := h.at hm
          have rx0 := rx.1
          have B := BIG_ge
          simp only [h1, h2, true_and] at hR
          rw [← h1] at hR
          rw [← h1]
          rw [hi] at hR ⊢
          have hR : R (if isSum (gi a i) (gi b i) (gi bx i) = true then Way.steps (jointF (gi a ax) (gi b ax)) else .non).d [.d (prD a b), .d (tI bx), .d (.int (ax : Nat))] := by simpa using hR
          simp -implicitDefEqProofs -dsimp [fa, fb, fx]
          refine ask_of (sp := sp_is_sum) ⟨_, _, _, rfl, ra, rb, by omega, rx.2, ?_⟩
          (try simp -implicitDefEqProofs -dsimp)
          cases hs : isSum (gi a i) (gi b i) (gi bx i) with
          | true =>
            rw [hs, if_pos rfl] at hR
            simp -implicitDefEqProofs -dsimp [w_along_1]
            refine ask_of (sp := sp_joint) ⟨_, _, rfl, qa, qb, ?_⟩
            (try simp -implicitDefEqProofs -dsimp)
            exact hR
          | false =>
            rw [hs, if_neg (by simp)] at hR
            simp -implicitDefEqProofs -dsimp [w_along_t1]
            exact hR
        · rw [if_neg (by omega)]
          simp only [h2, false_and, and_false, if_false] at hR
          simp -implicitDefEqProofs -dsimp [w_along_t1]
          exact hR
      · rw [if_neg h1]
        simp only [h1, false_and, if_false] at hR
        simp -implicitDefEqProofs -dsimp [w_along_t1]
        exact hR
theorem rd_Ltask : ∀ cs R, sp_Ltask cs R → w_Ltask (endsOf cs R) (start0 3 cs) := by
  rintro _ R ⟨a, b, c, rfl, hR⟩
  simp -implicitDefEqProofs -dsimp [w_Ltask]
  refine ask_draw (by omega) (by omega) fun ax d0 d1 => ?_
  (try simp -implicitDefEqProofs -dsimp)
  refine ask_of ⟨a, b, c, _, _, rfl, by omega, by omega, by omega, by omega, fun p q lp lq hp hq => ?_⟩
  have gr : Pr p q := ⟨by omega, by omega, by omega, fun x hx => by have := hp x hx; omega, fun x hx => by have := hq x hx; omega⟩
  simp -implicitDefEqProofs -dsimp [w_Ltask_s1, CPow]
  refine ask_of ⟨a, b, c, p, q, _, _, rfl, gr, fun x hx => by have := hp x hx; omega, fun x hx => by have := hq x hx; omega, by omega, by omega, by omega, fun bx lb ib _ => ?_⟩
  (try simp -implicitDefEqProofs -dsimp)
  refine ask_draw (by omega) (by omega) fun t t0 t1 => ?_
  obtain ⟨t, rfl⟩ : ∃ k : Nat, t = k := ⟨t.toNat, by omega⟩
  (try simp -implicitDefEqProofs -dsimp)
  exact hR p q bx t (by omega) lb (by omega) (by omega) hp hq ib
/-- a sum, seen by the rests of the other's multiples -/
theorem isSum_k {a b s : Int} (s0 : 0 ≤ s) (a0 : 1 ≤ a) (b0 : 1 ≤ b) : isSum a b s = !((List.range b.toNat).filter fun (k : Nat) => decide ((k : Int) * a ≤ s) && decide ((s - (k : Int) * a) % b = 0)).isEmpty := by
  rw [Bool.eq_iff_iff, isSum_iff a0 b0]
  simp only [Bool.not_eq_true', List.isEmpty_eq_false_iff_exists_mem, List.mem_filter, List.mem_range, Bool.and_eq_true, decide_eq_true_eq]
  constructor
  · rintro ⟨x, y, x0, y0, e⟩
    have m0 := Int.emod_nonneg x (show b ≠ 0 by omega)
    have m1 := Int.emod_lt_of_pos x (show 0 < b by omega)
    have md := Int.mul_ediv_add_emod x b
    have q0 := Int.ediv_nonneg x0 (show 0 ≤ b by omega)
    have ee : s - (x % b) * a = b * (y + x / b * a) := by
      rw [← e, Int.mul_add, ← Int.mul_assoc]
      have : a * x = b * (x / b) * a + x % b * a := by rw [← Int.add_mul, md, Int.mul_comm]
      rw [this]; omega
    have z := Int.mul_nonneg (show 0 ≤ b by omega) (show 0 ≤ y + x / b * a from Int.add_nonneg y0 (Int.mul_nonneg q0 (by omega)))
    refine ⟨(x % b).toNat, by omega, ?_, ?_⟩
    · rw [Int.toNat_of_nonneg m0]; omega
    · rw [Int.toNat_of_nonneg m0, ee]; exact Int.mul_emod_right ..
  · rintro ⟨k, hk, h1, h2⟩
    have e := Int.mul_ediv_cancel' (Int.dvd_of_emod_eq_zero h2)
    exact ⟨k, (s - (k : Int) * a) / b, by omega, Int.ediv_nonneg (by omega) (by omega), by rw [e, Int.mul_comm a]; omega⟩
theorem rd_Lfar_sum : ∀ cs R, sp_Lfar_sum cs R → w_Lfar_sum (endsOf cs R) (start0 4 cs) := by
  rintro _ R ⟨s, a, b, rfl, s0, s1, a0, a1, b0, b1, hR⟩
  simp -implicitDefEqProofs -dsimp [w_Lfar_sum]
  refine ⟨by omega, by omega, ?_⟩
  rw [nums_0]
  refine com_map (List.range b.toNat) _ rfl (fun k => if (decide ((k : Int) * a ≤ s) && decide ((s - (k : Int) * a) % b = 0)) = true then some (.int (k : Nat)) else none) (fun k hk acc K hK => ?_) ?_
  · have hk := List.mem_range.mp hk
    (try simp -implicitDefEqProofs -dsimp)
    try refine ⟨cm_r (by omega), ?_⟩
    by_cases c : (k : Int) * a ≤ s
    · rw [if_pos c]
      refine ⟨cm_r (by omega), by omega, ?_⟩
      split
      · rename_i z
        simpa [z, c] using hK
      · rename_i z
        simpa [z, c] using hK
    · rw [if_neg c]
      simpa [c] using hK
  · rw [fm_map]
    (try simp -implicitDefEqProofs -dsimp)
    rw [isSum_k s0 a0 b0] at hR
    refine ⟨shaped_nats _, shaped_nil, ?_⟩
    rw [eqv_nats]
    exact hR
theorem rd_Lfar_filled : ∀ cs R, sp_Lfar_filled cs R → w_Lfar_filled (endsOf cs R) (start0 4 cs) := by
  rintro _ R ⟨a, b, bx, rfl, h, ha, hb, hx, hR⟩
  have l1 := h.l1
  have la := h.la
  have lb := h.lb
  simp -implicitDefEqProofs -dsimp [w_Lfar_filled]
  refine ask_of (sp := sp_Lrests) ⟨a, bx, rfl, by omega, by omega, fun x h => (ha x h).1, ?_⟩
  (try simp -implicitDefEqProofs -dsimp)
  refine ask_of (sp := sp_Lrests) ⟨b, bx, rfl, by omega, by omega, fun x h => (hb x h).1, ?_⟩
  simp -implicitDefEqProofs -dsimp [w_Lfar_filled_s1, shaped_nats, eqv_nats, shaped_nil]
  unfold fillB at hR
  by_cases ea : restsF a bx = []
  · rw [ea] at hR
    rw [if_pos ea]
    exact hR
  rw [if_neg ea]
  by_cases eb : restsF b bx = []
  · rw [eb] at hR
    rw [if_pos eb]
    simpa using hR
  rw [if_neg eb]
  have na : (restsF a bx).isEmpty = false := by simpa using ea
  have nb : (restsF b bx).isEmpty = false := by simpa using eb
  rw [na, nb, Bool.false_or, Bool.false_or] at hR
  simp -implicitDefEqProofs -dsimp [w_Lfar_filled_t2, shaped_nats, eqv_natsA]
  by_cases h1 : 1 < (restsF a bx).length
  · have : ¬ (restsF a bx).length = 1 := by omega
    rw [if_pos (by omega)]
    simpa [this] using hR
  by_cases h2 : restsF a bx = restsF b bx
  · have h3 : (restsF a bx).length = 1 := by
      have : 0 < (restsF a bx).length := List.length_pos_iff.mpr ea
      omega
    obtain ⟨ax, hax⟩ := List.length_eq_one_iff.mp h3
    have hlt : ax < bx.length := (mem_rests.mp (by rw [hax]; exact List.mem_cons_self ..)).1
    rw [if_neg (by omega), if_pos h2]
    rw [← h2, hax] at hR ⊢
    simp -implicitDefEqProofs -dsimp [w_Lfar_filled_t1, gi_at (show ax < a.length by omega), gi_at (show ax < b.length by omega), gi_at hlt]
    have x0 := hx _ (gi_mem hlt)
    have a0 := ha _ (gi_mem (show ax < a.length by omega))
    have b0 := hb _ (gi_mem (show ax < b.length by omega))
    refine ask_of (sp := sp_Lfar_sum) ⟨_, _, _, rfl, by omega, by omega, a0.1, a0.2, b0.1, b0.2, ?_⟩
    simpa using hR
  · rw [if_neg (by omega), if_neg h2]
    simpa [h2] using hR
theorem joint_dvd {a b s : Int} (ha : 1 ≤ a) (hb : 1 ≤ b) : jointF a b ∣ s ↔ a ∣ s ∧ b ∣ s := by
  obtain ⟨g0, _⟩ := gcd_le (b := b) ha
  obtain ⟨a', ea⟩ := gcd_dvd_l a b
  obtain ⟨b', eb⟩ := gcd_dvd_r a b
  have cp := gcd_parts (b := b) ha
  unfold jointF
  revert g0 ea eb cp
  generalize gcdI a b = g
  intro g0 ea eb cp
  have e1 : a / g = a' := Int.ediv_eq_of_eq_mul_right (by omega) ea
  have e2 : b / g = b' := Int.ediv_eq_of_eq_mul_right (by omega) eb
  rw [e1, e2] at cp
  rw [e1]
  constructor
  · rintro ⟨z, rfl⟩
    refine ⟨⟨b' * z, ?_⟩, ⟨a' * z, ?_⟩⟩
    · rw [ea, eb]; simp only [Int.mul_assoc, Int.mul_left_comm, Int.mul_comm]
    · simp only [Int.mul_assoc, Int.mul_left_comm, Int.mul_comm]
  · rintro ⟨⟨x, hx⟩, h2⟩
    have q : b' ∣ a' * x := by
      have : g * b' ∣ g * (a' * x) := by
        rw [← eb, ← Int.mul_assoc, ← ea, ← hx]; exact h2
      exact mul_cancel_dvd (by omega) this
    have b'1 : 1 ≤ b' := by
      have := Int.pos_of_mul_pos_right (a := g) (b := b') (by rw [← eb]; omega) (by omega)
      omega
    obtain ⟨y, hy⟩ := dvd_of_coprime b'1 cp q
    refine ⟨y, ?_⟩
    rw [hx, hy, ea, eb]
    simp only [Int.mul_assoc, Int.mul_left_comm, Int.mul_comm]
theorem sum_comm' {a b s : Int} (ha : 1 ≤ a) (hb : 1 ≤ b) : isSum a b s = true ↔ isSum b a s = true := by
  rw [isSum_iff ha hb, isSum_iff hb ha]
  constructor
  · rintro ⟨x, y, hx, hy, h⟩; exact ⟨y, x, hy, hx, by omega⟩
  · rintro ⟨x, y, hx, hy, h⟩; exact ⟨y, x, hy, hx, by omega⟩
theorem sum_dvd {a b s : Int} (ha : 1 ≤ a) (hb : 1 ≤ b) (hs : 0 ≤ s) (h : a ∣ b) : isSum a b s = true ↔ a ∣ s := by
  constructor
  · intro q
    obtain ⟨x, y, _, _, e⟩ := (isSum_iff ha hb).mp q
    rw [← e]
    exact Int.dvd_add (Int.dvd_mul_right ..) (Int.dvd_mul_of_dvd_left h)
  · exact isSum_l ha hb hs
theorem sumsW_fits {a b s : Int} (ha : 1 ≤ a) (hb : 1 ≤ b) (hs : 0 ≤ s) : (sumsW a b).fits s = true ↔ isSum a b s = true := by
  have dv : ∀ k : Int, decide (s % k = 0) = true ↔ k ∣ s := fun k => by
    rw [decide_eq_true_eq]; exact (Int.dvd_iff_emod_eq_zero).symm
  unfold sumsW
  by_cases c : a ≤ b
  · rw [Int.min_eq_left c, Int.max_eq_right c]
    by_cases z : b % a = 0
    · rw [if_pos z]
      show decide (s % a = 0) = true ↔ _
      rw [dv, sum_dvd ha hb hs (Int.dvd_of_emod_eq_zero z)]
    · rw [if_neg z]; exact Iff.rfl
  · rw [Int.min_eq_right (by omega), Int.max_eq_left (by omega), sum_comm' ha hb]
    by_cases z : a % b = 0
    · rw [if_pos z]
      show decide (s % b = 0) = true ↔ _
      rw [dv, sum_dvd hb ha hs (Int.dvd_of_emod_eq_zero z)]
    · rw [if_neg z]; exact Iff.rfl
theorem gi_set' {ns : List Int} {i k : Nat} {y : Int} (hi : i < ns.length) (h : i ≠ k) : gi (ns.set k y) i = gi ns i := by
  rw [gi_set hi, if_neg h]
/-- which sides fit along an axis -/
theorem way_fits {a b bx : List Int} {ax : Nat} {s : Int} (h : PB a b bx) (hx : ax < bx.length) (hs : 1 ≤ s) : fillB a b (bx.set ax s) = (wayF a b bx ax).fits s := by
  obtain ⟨_, _, _, qa, qb, _⟩ := h.at hx
  have a0 := qa.1
  have b0 := qb.1
  have gs : gi (bx.set ax s) ax = s := by rw [gi_set hx, if_pos rfl]
  have gn : ∀ i, i < bx.length → i ≠ ax → gi (bx.set ax s) i = gi bx i := fun i hi hn => gi_set' hi hn
  have ln : (bx.set ax s).length = bx.length := by simp
  have nilX : ∀ br : List Int, restsX br bx ax = [] ↔ ∀ i, i < bx.length → i ≠ ax → gi br i ∣ gi bx i := fun br => by
    rw [List.eq_nil_iff_forall_not_mem]
    constructor
    · intro q i hi hn
      have := q i
      rw [mem_restsX] at this
      exact Int.dvd_of_emod_eq_zero (Classical.byContradiction fun c => this ⟨hi, hn, c⟩)
    · intro q i hm
      obtain ⟨m1, m2, m3⟩ := mem_restsX.mp hm
      exact m3 (Int.emod_eq_zero_of_dvd (q i m1 m2))
  rw [Bool.eq_iff_iff, fillB_iff]
  unfold Fill
  rw [ln]
  have allA : ∀ br : List Int, (∀ i, i < bx.length → gi br i ∣ gi (bx.set ax s) i) ↔ restsX br bx ax = [] ∧ gi br ax ∣ s := fun br => by
    rw [nilX]
    constructor
    · intro q
      exact ⟨fun i hi hn => by rw [← gn i hi hn]; exact q i hi, by rw [← gs]; exact q ax hx⟩
    · rintro ⟨q1, q2⟩ i hi
      by_cases c : i = ax
      · subst c; rw [gs]; exact q2
      · rw [gn i hi c]; exact q1 i hi c
  rw [allA, allA]
  have dv : ∀ k : Int, decide (s % k = 0) = true ↔ k ∣ s := fun k => by
    rw [decide_eq_true_eq]; exact (Int.dvd_iff_emod_eq_zero).symm
  unfold wayF
  by_cases na : restsX a bx ax = []
  · rw [if_pos na]
    by_cases nb : restsX b bx ax = []
    · rw [if_pos nb]
      have e : (sumsW (gi a ax) (gi b ax)).fits s = true ↔ isSum (gi a ax) (gi b ax) s = true := by
        exact sumsW_fits a0 b0 (by omega)
      rw [e]
      constructor
      · rintro (⟨_, q⟩ | ⟨_, q⟩ | ⟨e, he, h1, h2⟩)
        · exact isSum_l a0 b0 (by omega) q
        · exact isSum_r a0 b0 (by omega) q
        · by_cases c : e = ax
          · subst c; rw [gs] at h2; exact h2
          · have := (h1 ax hx (fun z => c z.symm)).1
            rw [gs] at this
            exact isSum_l a0 b0 (by omega) this
      · intro q
        refine .inr (.inr ⟨ax, hx, fun i hi hn => ?_, by rw [gs]; exact q⟩)
        rw [gn i hi hn]
        exact ⟨(nilX a).mp na i hi hn, (nilX b).mp nb i hi hn⟩
    · rw [if_neg nb]
      show _ ↔ decide (s % gi a ax = 0) = true
      rw [dv]
      constructor
      · rintro (⟨_, q⟩ | ⟨z, q⟩ | ⟨e, he, h1, h2⟩)
        · exact q
        · exact absurd z nb
        · by_cases c : e = ax
          · subst c
            exact absurd ((nilX b).mpr fun i hi hn => by rw [← gn i hi hn]; exact (h1 i hi hn).2) nb
          · have := (h1 ax hx (fun z => c z.symm)).1
            rw [gs] at this; exact this
      · intro q; exact .inl ⟨na, q⟩
  · rw [if_neg na]
    by_cases nb : restsX b bx ax = []
    · rw [if_pos nb]
      show _ ↔ decide (s % gi b ax = 0) = true
      rw [dv]
      constructor
      · rintro (⟨z, q⟩ | ⟨_, q⟩ | ⟨e, he, h1, h2⟩)
        · exact absurd z na
        · exact q
        · by_cases c : e = ax
          · subst c
            exact absurd ((nilX a).mpr fun i hi hn => by rw [← gn i hi hn]; exact (h1 i hi hn).1) na
          · have := (h1 ax hx (fun z => c z.symm)).2
            rw [gs] at this; exact this
      · intro q; exact .inr (.inl ⟨nb, q⟩)
    · rw [if_neg nb]
      have main : ((restsX a bx ax = [] ∧ gi a ax ∣ s) ∨ (restsX b bx ax = [] ∧ gi b ax ∣ s) ∨ ∃ e, e < bx.length ∧ (∀ i, i < bx.length → i ≠ e → gi a i ∣ gi (bx.set ax s) i ∧ gi b i ∣ gi (bx.set ax s) i) ∧ isSum (gi a e) (gi b e) (gi (bx.set ax s) e) = true) ↔
          (restsX a bx ax = restsX b bx ax ∧ (restsX a bx ax).length = 1 ∧ isSum (gi a ((restsX a bx ax).headD 0)) (gi b ((restsX a bx ax).headD 0)) (gi bx ((restsX a bx ax).headD 0)) = true) ∧ jointF (gi a ax) (gi b ax) ∣ s := by
        rw [joint_dvd a0 b0]
        constructor
        · rintro (⟨z, _⟩ | ⟨z, _⟩ | ⟨e, he, h1, h2⟩)
          · exact absurd z na
          · exact absurd z nb
          · have c : e ≠ ax := fun c => by
              subst c
              exact na ((nilX a).mpr fun i hi hn => by rw [← gn i hi hn]; exact (h1 i hi hn).1)
            have d := h1 ax hx (fun z => c z.symm)
            rw [gs] at d
            have s1 := nodup_sing (ax := e) (restsX_nodup a bx ax) na fun i hi => Classical.byContradiction fun n => by
              obtain ⟨m1, m2, m3⟩ := mem_restsX.mp hi
              have := (h1 i m1 n).1
              rw [gn i m1 m2] at this
              exact m3 (Int.emod_eq_zero_of_dvd this)
            have s2 := nodup_sing (ax := e) (restsX_nodup b bx ax) nb fun i hi => Classical.byContradiction fun n => by
              obtain ⟨m1, m2, m3⟩ := mem_restsX.mp hi
              have := (h1 i m1 n).2
              rw [gn i m1 m2] at this
              exact m3 (Int.emod_eq_zero_of_dvd this)
            rw [gn e he c] at h2
            rw [s1, s2]
            exact ⟨⟨rfl, rfl, h2⟩, d⟩
        · rintro ⟨⟨e1, e2, e3⟩, d⟩
          obtain ⟨e, he⟩ := List.length_eq_one_iff.mp e2
          obtain ⟨m1, m2, m3⟩ := mem_restsX.mp (show e ∈ restsX a bx ax by rw [he]; simp)
          rw [he] at e1 e3
          refine .inr (.inr ⟨e, m1, fun i hi hn => ?_, by rw [gn e m1 m2]; exact e3⟩)
          by_cases c : i = ax
          · subst c; rw [gs]; exact d
          · rw [gn i hi c]
            have n1 : i ∉ restsX a bx ax := by rw [he]; simpa using hn
            have n2 : i ∉ restsX b bx ax := by rw [← e1]; simpa using hn
            rw [mem_restsX] at n1 n2
            exact ⟨Int.dvd_of_emod_eq_zero (Classical.byContradiction fun z => n1 ⟨hi, c, z⟩), Int.dvd_of_emod_eq_zero (Classical.byContradiction fun z => n2 ⟨hi, c, z⟩)⟩
      rw [main]
      by_cases c : restsX a bx ax = restsX b bx ax ∧ (restsX a bx ax).length = 1 ∧ isSum (gi a ((restsX a bx ax).headD 0)) (gi b ((restsX a bx ax).headD 0)) (gi bx ((restsX a bx ax).headD 0)) = true
      · rw [if_pos c]
        show _ ↔ decide (s % jointF (gi a ax) (gi b ax) = 0) = true
        rw [dv]
        exact ⟨fun q => q.2, fun q => ⟨c, q⟩⟩
      · rw [if_neg c]
        show _ ↔ false = true
        exact ⟨fun q => absurd q.1 c, fun q => by cases q⟩
theorem rd_Lfitting : ∀ cs R, sp_Lfitting cs R → w_Lfitting (endsOf cs R) (start0 5 cs) := by
  rintro _ R ⟨a, b, bx, ax, m, rfl, h, ha, hb, hbx, hx, m0, m1, hR⟩
  have l1 := h.l1
  simp -implicitDefEqProofs -dsimp [w_Lfitting]
  refine ⟨by omega, ?_⟩
  rw [nums_map]
  refine com_map (List.range m.toNat) _ rfl (fun i => if (wayF a b bx ax).fits (1 + (i : Int)) = true then some (.int (1 + (i : Int))) else none) (fun i hi acc K hK => ?_) ?_
  · have hi := List.mem_range.mp hi
    (try simp -implicitDefEqProofs -dsimp)
    refine ask_with (by omega) (by omega) ?_
    (try simp -implicitDefEqProofs -dsimp)
    have pb : PB a b (bx.set ax (1 + (i : Int))) := ⟨by simpa using h.la, by simpa using h.lb, by simpa using h.l0, by simpa using h.l1, h.pa, h.pb, fun x hx => by
      rcases List.mem_or_eq_of_mem_set hx with q | q
      · exact h.px x q
      · rw [q]; exact Pos.of (by omega) (by omega)⟩
    refine ask_of (sp := sp_Lfar_filled) ⟨a, b, _, rfl, pb, ha, hb, hbx.set (by omega) (by omega), ?_⟩
    rw [way_fits h hx (by omega)]
    (try simp -implicitDefEqProofs -dsimp)
    split
    · rename_i z
      simpa [z] using hK
    · rename_i z
      simpa [z] using hK
  · rw [fm_map]
    have e : List.map (fun (i : Nat) => PyData.int (1 + (i : Int))) ((List.range m.toNat).filter fun i => (wayF a b bx ax).fits (1 + (i : Int))) = lI (fitL (wayF a b bx ax) m) := by
      unfold fitL lI
      rw [List.filter_map, List.map_map]; rfl
    rw [e]
    (try simp -implicitDefEqProofs -dsimp)
    exact hR
theorem restsX_off {a bx a' bx' : List Int} {ax : Nat} (hl : bx'.length = bx.length) (hg : ∀ i, i < bx.length → i ≠ ax → gi bx' i = gi bx i ∧ gi a' i = gi a i) : restsX a' bx' ax = restsX a bx ax := by
  unfold restsX
  rw [hl]
  refine List.filter_congr fun i hi => ?_
  have hi := List.mem_range.mp hi
  by_cases c : i = ax
  · simp [c]
  · obtain ⟨e1, e2⟩ := hg i hi c
    rw [e1, e2]
/-- the sides along the axis aside, nothing changes -/
theorem way_off {a b bx a' b' bx' : List Int} {ax : Nat} (hl : bx'.length = bx.length) (hg : ∀ i, i < bx.length → i ≠ ax → gi bx' i = gi bx i ∧ gi a' i = gi a i ∧ gi b' i = gi b i) :
    wayF a' b' bx' ax = (if restsX a bx ax = [] then (if restsX b bx ax = [] then sumsW (gi a' ax) (gi b' ax) else .steps (gi a' ax))
      else if restsX b bx ax = [] then .steps (gi b' ax)
      else if restsX a bx ax = restsX b bx ax ∧ (restsX a bx ax).length = 1 ∧ isSum (gi a ((restsX a bx ax).headD 0)) (gi b ((restsX a bx ax).headD 0)) (gi bx ((restsX a bx ax).headD 0)) = true then .steps (jointF (gi a' ax) (gi b' ax))
      else .non) := by
  unfold wayF
  rw [restsX_off (a := a) (a' := a') hl fun i hi hn => ⟨(hg i hi hn).1, (hg i hi hn).2.1⟩, restsX_off (a := b) (a' := b') hl fun i hi hn => ⟨(hg i hi hn).1, (hg i hi hn).2.2⟩]
  by_cases na : restsX a bx ax = []
  · rw [if_pos na, if_pos na]
  rw [if_neg na, if_neg na]
  by_cases nb : restsX b bx ax = []
  · rw [if_pos nb, if_pos nb]
  rw [if_neg nb, if_neg nb]
  by_cases h1 : (restsX a bx ax).length = 1
  · obtain ⟨e, he⟩ := List.length_eq_one_iff.mp h1
    obtain ⟨m1, m2, _⟩ := mem_restsX.mp (show e ∈ restsX a bx ax by rw [he]; simp)
    obtain ⟨g1, g2, g3⟩ := hg e m1 m2
    rw [he]
    show (if [e] = restsX b bx ax ∧ [e].length = 1 ∧ isSum (gi a' e) (gi b' e) (gi bx' e) = true then _ else _) = _
    rw [g1, g2, g3]; rfl
  · rw [if_neg fun q => h1 q.2.1, if_neg fun q => h1 q.2.1]
def Way.scale (t : Int) : Way → Way
  | .non => .non
  | .steps k => .steps (k * t)
  | .sums l h => .sums (l * t) (h * t)
theorem gcd_scale {x y t : Int} (ht : 1 ≤ t) : gcdI (x * t) (y * t) = gcdI x y * t := by
  unfold gcdI
  rw [Int.gcd_mul_right, Int.natCast_mul]
  congr 1
  omega
theorem joint_scale {x y t : Int} (ht : 1 ≤ t) (hx : 1 ≤ x) : jointF (x * t) (y * t) = jointF x y * t := by
  unfold jointF
  rw [gcd_scale ht, Int.mul_ediv_mul_of_pos_left _ _ (by omega), Int.mul_assoc]
theorem sumsW_scale {x y t : Int} (ht : 1 ≤ t) : sumsW (x * t) (y * t) = (sumsW x y).scale t := by
  unfold sumsW
  have mn : ∀ {u v : Int}, u ≤ v → u * t ≤ v * t := fun h => Int.mul_le_mul_of_nonneg_right h (by omega)
  have key : ∀ u v : Int, (if v * t % (u * t) = 0 then Way.steps (u * t) else .sums (u * t) (v * t)) = (if v % u = 0 then Way.steps u else .sums u v).scale t := fun u v => by
    rw [Int.mul_comm v t, Int.mul_comm u t, Int.mul_emod_mul_of_pos _ _ (show 0 < t by omega)]
    by_cases z : v % u = 0
    · rw [if_pos z, z, Int.mul_zero, if_pos rfl]
      show _ = Way.steps (u * t)
      rw [Int.mul_comm]
    · rw [if_neg z, if_neg (fun q => by
        rcases Int.mul_eq_zero.mp q with q | q
        · omega
        · exact z q)]
      show _ = Way.sums (u * t) (v * t)
      rw [Int.mul_comm u, Int.mul_comm v]
  by_cases c : x ≤ y
  · rw [Int.min_eq_left c, Int.max_eq_right c, Int.min_eq_left (mn c), Int.max_eq_right (mn c)]
    exact key _ _
  · have d : y ≤ x := by omega
    rw [Int.min_eq_right d, Int.max_eq_left d, Int.min_eq_right (mn d), Int.max_eq_left (mn d)]
    exact key _ _
/-- both bricks' sides along the axis multiplied -/
theorem way_scale {a b bx : List Int} {ax : Nat} {t : Int} (h : PB a b bx) (hx : ax < bx.length) (ht : 1 ≤ t) : wayF (a.set ax (gi a ax * t)) (b.set ax (gi b ax * t)) bx ax = (wayF a b bx ax).scale t := by
  have la := h.la
  have lb := h.lb
  obtain ⟨_, _, _, qa, qb, _⟩ := h.at hx
  have a0 := qa.1
  rw [way_off (a := a) (b := b) (bx := bx) rfl fun i hi hn => ⟨rfl, gi_set' (by omega) hn, gi_set' (by omega) hn⟩]
  have ga : gi (a.set ax (gi a ax * t)) ax = gi a ax * t := by rw [gi_set (by omega), if_pos rfl]
  have gb : gi (b.set ax (gi b ax * t)) ax = gi b ax * t := by rw [gi_set (by omega), if_pos rfl]
  rw [ga, gb, sumsW_scale ht, joint_scale ht a0]
  unfold wayF
  by_cases na : restsX a bx ax = []
  · rw [if_pos na, if_pos na]
    by_cases nb : restsX b bx ax = []
    · rw [if_pos nb, if_pos nb]
    · rw [if_neg nb, if_neg nb]; rfl
  rw [if_neg na, if_neg na]
  by_cases nb : restsX b bx ax = []
  · rw [if_pos nb, if_pos nb]; rfl
  rw [if_neg nb, if_neg nb]
  split <;> rfl
theorem joint_le {x y : Int} (hx : 1 ≤ x) (hy : 1 ≤ y) : 1 ≤ jointF x y ∧ jointF x y ≤ x * y := by
  obtain ⟨g0, g1⟩ := gcd_le (b := y) hx
  have e := Int.ediv_mul_cancel (gcd_dvd_l x y)
  have p : 1 ≤ x / gcdI x y := by
    have := Int.ediv_nonneg (show 0 ≤ x by omega) (show 0 ≤ gcdI x y by omega)
    have : x / gcdI x y ≠ 0 := fun z => by rw [z] at e; omega
    omega
  have l := Int.ediv_le_self (gcdI x y) (show 0 ≤ x by omega)
  unfold jointF
  have u1 := Int.mul_le_mul_of_nonneg_right l (show 0 ≤ y by omega)
  have u2 := Int.mul_le_mul p hy (by omega) (by omega)
  omega
end TW
set_option Elab.async false
set_option linter.all false
set_option maxRecDepth 100000
set_option maxHeartbeats 4000000
namespace TW
open PySem PySem.Spec PyProof.Rows L2 DL
end TW
set_option Elab.async false
set_option linter.all false
set_option maxRecDepth 100000
set_option maxHeartbeats 4000000
namespace TW
open PySem PySem.Spec PyProof.Rows L2 DL
theorem emod_one' {x b : Int} (h : b ∣ x) (h0 : 0 ≤ x) (h1 : x < b) : x = 0 := by
  obtain ⟨c, rfl⟩ := h
  by_cases z : c = 0
  · rw [z]; simp
  · have : 1 ≤ c := by
      by_cases n : c ≤ -1
      · have := Int.mul_le_mul_of_nonneg_left n (show 0 ≤ b by omega)
        have b0 : 0 < b := by omega
        have : b * c < 0 := by omega
        omega
      · omega
    have := Int.mul_le_mul_of_nonneg_left this (show 0 ≤ b by omega)
    omega
/-- of two that mirror one another below the last gap just one is a sum -/
theorem sum_sym {a b s : Int} (ha : 1 ≤ a) (hb : 1 ≤ b) (hg : gcdI a b = 1) : isSum a b s = !isSum a b (a * b - a - b - s) := by
  have dv : ∀ x : Int, gcdI a b ∣ x := fun x => by rw [hg]; exact Int.one_dvd x
  have q : b / gcdI a b = b := by rw [hg]; exact Int.ediv_one b
  unfold isSum
  cases h1 : timesF a b s with
  | none => exact absurd (dv s) (times_none.mp h1)
  | some t =>
    cases h2 : timesF a b (a * b - a - b - s) with
    | none => exact absurd (dv _) (times_none.mp h2)
    | some u =>
      obtain ⟨_, t0, t1, t2⟩ := times_some ha hb h1
      obtain ⟨_, u0, u1, u2⟩ := times_some ha hb h2
      rw [q] at t1 u1
      obtain ⟨m, hm⟩ := t2
      have e : a * b - a - b - s - a * (b - 1 - t) = b * (-1 - m) := by
        rw [Int.mul_sub, Int.mul_sub, Int.mul_sub, ← hm]; omega
      obtain ⟨v0, v1⟩ := times_least ha hb h2 (x := b - 1 - t) (by omega) (by rw [e]; exact Int.dvd_mul_right ..)
      rw [q] at v1
      have := emod_one' v1 (by omega) (by omega)
      have hu : u = b - 1 - t := by omega
      subst hu
      show decide (a * t ≤ s) = !decide (a * (b - 1 - t) ≤ a * b - a - b - s)
      by_cases c : 0 ≤ m
      · have p := Int.mul_nonneg (show 0 ≤ b by omega) c
        have n : b * (-1 - m) < 0 := by
          have := Int.mul_le_mul_of_nonneg_left (show -1 - m ≤ -1 by omega) (show 0 ≤ b by omega)
          omega
        rw [decide_eq_true (show a * t ≤ s by omega), decide_eq_false (show ¬ a * (b - 1 - t) ≤ a * b - a - b - s by omega)]; rfl
      · have p := Int.mul_nonneg (show 0 ≤ b by omega) (show 0 ≤ -1 - m by omega)
        have n : b * m < 0 := by
          have := Int.mul_le_mul_of_nonneg_left (show m ≤ -1 by omega) (show 0 ≤ b by omega)
          omega
        rw [decide_eq_false (show ¬ a * t ≤ s by omega), decide_eq_true (show a * (b - 1 - t) ≤ a * b - a - b - s by omega)]; rfl
theorem sum_neg {a b s : Int} (ha : 1 ≤ a) (hb : 1 ≤ b) (hs : s < 0) : isSum a b s = false := by
  rw [← Bool.not_eq_true, isSum_iff ha hb]
  rintro ⟨x, y, x0, y0, e⟩
  have := Int.mul_nonneg (show 0 ≤ a by omega) x0
  have := Int.mul_nonneg (show 0 ≤ b by omega) y0
  omega
theorem sum_part {l h g s : Int} (hl : 1 ≤ l) (hh : 1 ≤ h) (hg : gcdI l h = g) : isSum l h s = true ↔ g ∣ s ∧ isSum (l / g) (h / g) (s / g) = true := by
  obtain ⟨g0, g1⟩ := gcd_le (b := h) hl
  obtain ⟨l', el⟩ := gcd_dvd_l l h
  obtain ⟨h', eh⟩ := gcd_dvd_r l h
  rw [hg] at g0 g1 el eh
  have q1 : l / g = l' := Int.ediv_eq_of_eq_mul_right (by omega) el
  have q2 : h / g = h' := Int.ediv_eq_of_eq_mul_right (by omega) eh
  have p1 : 1 ≤ l' := by
    have := Int.pos_of_mul_pos_right (a := g) (b := l') (by rw [← el]; omega) (by omega)
    omega
  have p2 : 1 ≤ h' := by
    have := Int.pos_of_mul_pos_right (a := g) (b := h') (by rw [← eh]; omega) (by omega)
    omega
  rw [q1, q2, isSum_iff hl hh, isSum_iff p1 p2]
  constructor
  · rintro ⟨x, y, x0, y0, e⟩
    have e2 : s = g * (l' * x + h' * y) := by rw [Int.mul_add, ← Int.mul_assoc, ← Int.mul_assoc, ← el, ← eh, e]
    exact ⟨⟨_, e2⟩, x, y, x0, y0, (Int.ediv_eq_of_eq_mul_right (by omega) e2).symm⟩
  · rintro ⟨⟨z, rfl⟩, x, y, x0, y0, e⟩
    rw [Int.mul_ediv_cancel_left _ (show g ≠ 0 by omega)] at e
    exact ⟨x, y, x0, y0, by rw [← e, Int.mul_add, ← Int.mul_assoc, ← Int.mul_assoc, ← el, ← eh]⟩
/-- how it goes on -/
structure Tail (w : Way) (c g : Int) : Prop where
  g1 : 1 ≤ g
  c0 : 0 ≤ c
  far : ∀ s, c < s → (w.fits s = true ↔ g ∣ s)
  at0 : c = 0 ∨ (1 ≤ c ∧ w.fits c = false ∧ g ∣ c)
  tl : tailF w = .tuple [.int (c + 1), .int g]
  gp : gapF w = if g = 1 then .int c else .none
theorem gp_fin {l h g : Int} (hg : gcdI l h = g) : (if g = 1 then PyData.int (l * h - l - h) else .none) = if g = 1 then .int (jointF l h - l - h) else .none := by
  by_cases c : g = 1
  · rw [if_pos c, if_pos c]
    unfold jointF
    rw [hg, c, Int.ediv_one]
  · rw [if_neg c, if_neg c]
theorem tail_sums {l h : Int} (hl : 1 ≤ l) (hh : l < h) (hz : h % l ≠ 0) : Tail (.sums l h) (jointF l h - l - h) (gcdI l h) := by
  obtain ⟨g, hg⟩ : ∃ g, gcdI l h = g := ⟨_, rfl⟩
  obtain ⟨g0, g1⟩ := gcd_le (b := h) hl
  obtain ⟨l', el⟩ := gcd_dvd_l l h
  obtain ⟨h', eh⟩ := gcd_dvd_r l h
  have cp := gcd_parts (b := h) hl
  have part := fun s => sum_part (s := s) hl (show 1 ≤ h by omega) hg
  have ej : jointF l h = l / g * h := by unfold jointF; rw [hg]
  rw [hg] at g0 g1 el eh cp ⊢
  have q1 : l / g = l' := Int.ediv_eq_of_eq_mul_right (by omega) el
  have q2 : h / g = h' := Int.ediv_eq_of_eq_mul_right (by omega) eh
  rw [q1, q2] at cp
  rw [q1] at ej
  have p1 : 1 ≤ l' := by
    have := Int.pos_of_mul_pos_right (a := g) (b := l') (by rw [← el]; omega) (by omega)
    omega
  have p2 : 1 ≤ h' := by
    have := Int.pos_of_mul_pos_right (a := g) (b := h') (by rw [← eh]; omega) (by omega)
    omega
  have ec : jointF l h - l - h = g * (l' * h' - l' - h') := by
    rw [ej, Int.mul_sub, Int.mul_sub, ← el, ← eh, eh]
    rw [Int.mul_left_comm]
  have big : 1 ≤ l' * h' - l' - h' := by
    have n1 : l' ≠ 1 := fun z => by
      rw [z, Int.mul_one] at el
      apply hz; rw [el, eh]; exact Int.mul_emod_right ..
    have n2 : l' < h' := by
      by_cases c : l' < h'
      · exact c
      · have := Int.mul_le_mul_of_nonneg_left (show h' ≤ l' by omega) (show 0 ≤ g by omega)
        omega
    have := Int.mul_le_mul (show 2 ≤ l' by omega) (show l' + 1 ≤ h' by omega) (by omega) (by omega)
    have u := Int.mul_nonneg (show 0 ≤ l' - 2 by omega) (show 0 ≤ h' - l' - 1 by omega)
    have v : (l' - 1) * (h' - 1) = l' * h' - l' - h' + 1 := by
      rw [Int.sub_mul, Int.mul_sub]; omega
    have w := Int.mul_le_mul (show 1 ≤ l' - 1 by omega) (show 2 ≤ h' - 1 by omega) (by omega) (by omega)
    omega
  have cpos : 1 ≤ g * (l' * h' - l' - h') := by
    have := Int.mul_le_mul g0 big (by omega) (by omega)
    omega
  refine ⟨g0, by rw [ec]; omega, fun s hs => ?_, .inr ⟨by rw [ec]; omega, ?_, ?_⟩, by show PyData.tuple _ = _; rw [hg], by show (if gcdI l h = 1 then PyData.int (l * h - l - h) else .none) = _; rw [hg]; exact gp_fin hg ⟩
  · show isSum l h s = true ↔ _
    rw [part, q1, q2]
    constructor
    · exact fun q => q.1
    · rintro ⟨z, rfl⟩
      refine ⟨⟨z, rfl⟩, ?_⟩
      rw [Int.mul_ediv_cancel_left _ (show g ≠ 0 by omega), sum_sym p1 p2 cp, sum_neg p1 p2, Bool.not_false]
      rw [ec] at hs
      have := Int.lt_of_mul_lt_mul_left hs (by omega)
      omega
  · show isSum l h _ = false
    rw [← Bool.not_eq_true, part, q1, q2, ec, Int.mul_ediv_cancel_left _ (show g ≠ 0 by omega), sum_sym p1 p2 cp, show l' * h' - l' - h' - (l' * h' - l' - h') = 0 by omega, isSum_0 p1 p2]
    simp
  · rw [ec]; exact ⟨_, rfl⟩
end TW
set_option Elab.async false
set_option linter.all false
set_option maxRecDepth 100000
set_option maxHeartbeats 4000000
namespace TW
open PySem PySem.Spec PyProof.Rows L2 DL
def sumN (f : Nat → Nat) : Nat → Nat
  | 0 => 0
  | n + 1 => sumN f n + f n
theorem sumN_congr {f g : Nat → Nat} : ∀ {n : Nat}, (∀ k, k < n → f k = g k) → sumN f n = sumN g n
  | 0, _ => rfl
  | n + 1, h => by
    show sumN f n + f n = sumN g n + g n
    rw [sumN_congr fun k hk => h k (by omega), h n (by omega)]
theorem sumN_add (f g : Nat → Nat) : ∀ n, sumN (fun k => f k + g k) n = sumN f n + sumN g n
  | 0 => rfl
  | n + 1 => by
    show sumN (fun k => f k + g k) n + (f n + g n) = sumN f n + f n + (sumN g n + g n)
    rw [sumN_add f g n]; omega
theorem sumN_zero : ∀ n, sumN (fun _ => 0) n = 0
  | 0 => rfl
  | n + 1 => by show sumN _ n + 0 = 0; rw [sumN_zero n]
theorem sumN_const (c : Nat) : ∀ n, sumN (fun _ => c) n = n * c
  | 0 => by show 0 = 0 * c; simp
  | n + 1 => by show sumN _ n + c = _; rw [sumN_const c n, Nat.succ_mul]
theorem sumN_swap (f : Nat → Nat → Nat) : ∀ n m, sumN (fun k => sumN (f k) m) n = sumN (fun j => sumN (fun k => f k j) n) m
  | 0, m => by show 0 = sumN (fun _ => 0) m; rw [sumN_zero]
  | n + 1, m => by
    show sumN (fun k => sumN (f k) m) n + sumN (f n) m = sumN (fun j => sumN (fun k => f k j) n + f n j) m
    rw [sumN_swap f n m, sumN_add]
theorem sumN_rev (f : Nat → Nat) : ∀ n, sumN f n = sumN (fun k => f (n - 1 - k)) n := by
  have head : ∀ (f : Nat → Nat) n, sumN f (n + 1) = f 0 + sumN (fun k => f (k + 1)) n := fun f n => by
    induction n with
    | zero => show 0 + f 0 = f 0 + 0; omega
    | succ n ih =>
      show sumN f (n + 1) + f (n + 1) = f 0 + (sumN (fun k => f (k + 1)) n + f (n + 1))
      rw [ih]; omega
  intro n
  induction n with
  | zero => rfl
  | succ n ih =>
    rw [head (fun k => f (n + 1 - 1 - k)) n]
    show sumN f n + f n = f (n + 1 - 1 - 0) + sumN (fun k => f (n + 1 - 1 - (k + 1))) n
    rw [ih, show n + 1 - 1 - 0 = n by omega, Nat.add_comm]
    congr 1
    exact sumN_congr fun k hk => by congr 1; omega
theorem sumN_lt (g : Nat) : ∀ Y, sumN (fun j => if j < g then 1 else 0) Y = min Y g
  | 0 => by show 0 = min 0 g; omega
  | Y + 1 => by
    show sumN _ Y + (if Y < g then 1 else 0) = _
    rw [sumN_lt g Y]
    split <;> omega
/-- sum of (a k + b) / m for k below n -/
def flo (n m a b : Nat) : Nat := sumN (fun k => (a * k + b) / m) n
theorem tri (n : Nat) : sumN (fun k => k) n = n * (n - 1) / 2 := by
  have : 2 * sumN (fun k => k) n = n * (n - 1) := by
    induction n with
    | zero => rfl
    | succ n ih =>
      show 2 * (sumN (fun k => k) n + n) = (n + 1) * n
      rw [Nat.mul_add, ih]
      cases n with
      | zero => rfl
      | succ n =>
        show (n + 1) * n + 2 * (n + 1) = (n + 1 + 1) * (n + 1)
        simp only [Nat.add_mul, Nat.mul_add]; omega
  omega
theorem sumN_mul (c : Nat) (f : Nat → Nat) : ∀ n, sumN (fun k => f k * c) n = sumN f n * c
  | 0 => by show 0 = 0 * c; simp
  | n + 1 => by show sumN _ n + f n * c = (sumN f n + f n) * c; rw [sumN_mul c f n, Nat.add_mul]
theorem flo_mod {n m a b : Nat} (hm : 0 < m) : flo n m a b = n * (n - 1) / 2 * (a / m) + n * (b / m) + flo n m (a % m) (b % m) := by
  unfold flo
  rw [← tri, ← sumN_mul, ← sumN_const, ← sumN_add, ← sumN_add]
  refine sumN_congr fun k _ => ?_
  have e : a * k + b = m * (k * (a / m) + b / m) + (a % m * k + b % m) := by
    have h1 := Nat.div_add_mod a m
    have h2 := Nat.div_add_mod b m
    have h3 : a * k = m * (k * (a / m)) + a % m * k := by
      conv => lhs; rw [← h1, Nat.add_mul]
      rw [Nat.mul_assoc, Nat.mul_comm (a / m) k]
    rw [Nat.mul_add, h3]
    omega
  rw [e, Nat.mul_add_div hm]
theorem flo_swap {n m a b : Nat} (ha : 0 < a) (ham : a < m) (hb : b < m) : flo n m a b = flo ((a * n + b) / m) a m ((a * n + b) % m) := by
  have hm : 0 < m := by omega
  obtain ⟨Y, hY⟩ : ∃ Y, (a * n + b) / m = Y := ⟨_, rfl⟩
  obtain ⟨r, hr⟩ : ∃ r, (a * n + b) % m = r := ⟨_, rfl⟩
  have hd := Nat.div_add_mod (a * n + b) m
  have hlt := Nat.mod_lt (a * n + b) hm
  rw [hY, hr] at hd ⊢
  rw [hr] at hlt
  unfold flo
  have le : ∀ k, k < n → (a * k + b) / m ≤ Y := fun k hk => by
    rw [← hY]
    have h0 : a * k + b ≤ a * n + b := by have := Nat.mul_le_mul_left a (show k ≤ n by omega); omega
    exact Nat.div_le_div_right h0
  have s1 : sumN (fun k => (a * k + b) / m) n = sumN (fun k => sumN (fun j => if j < (a * k + b) / m then 1 else 0) Y) n :=
    sumN_congr fun k hk => by rw [sumN_lt]; have := le k hk; omega
  rw [s1, sumN_swap, sumN_rev]
  refine sumN_congr fun j hj => ?_
  rw [sumN_rev]
  have s2 : sumN (fun k => if Y - 1 - j < (a * (n - 1 - k) + b) / m then 1 else 0) n = sumN (fun k => if k < (m * j + r) / a then 1 else 0) n := by
    refine sumN_congr fun k hk => ?_
    have iff : Y - 1 - j < (a * (n - 1 - k) + b) / m ↔ k < (m * j + r) / a := by
      have h1 : Y - 1 - j < (a * (n - 1 - k) + b) / m ↔ m * (Y - j) ≤ a * (n - 1 - k) + b := by
        rw [Nat.lt_iff_add_one_le, Nat.le_div_iff_mul_le hm, show Y - 1 - j + 1 = Y - j by omega, Nat.mul_comm]
      have h2 : k < (m * j + r) / a ↔ a * (k + 1) ≤ m * j + r := by
        rw [Nat.lt_iff_add_one_le, Nat.le_div_iff_mul_le ha, Nat.mul_comm]
      rw [h1, h2]
      have e1 : m * (Y - j) + m * j = m * Y := by rw [← Nat.mul_add]; congr 1; omega
      have e2 : a * (n - 1 - k) + a * (k + 1) = a * n := by rw [← Nat.mul_add]; congr 1; omega
      omega
    by_cases c : k < (m * j + r) / a
    · rw [if_pos c, if_pos (iff.mpr c)]
    · rw [if_neg c, if_neg fun q => c (iff.mp q)]
  rw [s2, sumN_lt]
  have : (m * j + r) / a ≤ n := by
    have h3 : m * j + r < a * (n + 1) := by
      have h4 : m * (j + 1) ≤ m * Y := Nat.mul_le_mul_left m (by omega)
      rw [Nat.mul_add] at h4
      rw [Nat.mul_add]
      omega
    have := Nat.div_lt_of_lt_mul h3
    omega
  omega
theorem flo_zero {n m b : Nat} (hb : b < m) : flo n m 0 b = 0 := by
  unfold flo
  rw [sumN_congr (g := fun _ => 0) fun k _ => by rw [Nat.zero_mul, Nat.zero_add]; exact Nat.div_eq_of_lt hb, sumN_zero]
/-- how many from 1 to n -/
def cntP (p : Nat → Bool) : Nat → Nat
  | 0 => 0
  | n + 1 => cntP p n + if p (n + 1) = true then 1 else 0
theorem cnt_ind {p : Nat → Bool} {f : Nat → Nat} {B : Nat} (h0 : f 0 = 0) (h : ∀ m, m < B → f (m + 1) = f m + if p (m + 1) = true then 1 else 0) : ∀ {m}, m ≤ B → cntP p m = f m
  | 0, _ => h0.symm
  | m + 1, hm => by
    show cntP p m + _ = _
    rw [cnt_ind h0 h (show m ≤ B by omega), h m (by omega)]
theorem cnt_congr {p q : Nat → Bool} {m : Nat} (h : ∀ s, 1 ≤ s → s ≤ m → p s = q s) : cntP p m = cntP q m := by
  induction m with
  | zero => rfl
  | succ m ih =>
    show cntP p m + _ = cntP q m + _
    rw [ih fun s h0 h1 => h s h0 (by omega), h (m + 1) (by omega) (by omega)]
theorem fit_cnt (w : Way) (m : Nat) : (fitL w (m : Nat)).length = cntP (fun s => w.fits (s : Int)) m := by
  induction m with
  | zero => rfl
  | succ m ih =>
    show _ = cntP _ m + _
    rw [← ih]
    unfold fitL
    rw [Int.toNat_natCast, Int.toNat_natCast, List.range_succ, List.map_append, List.filter_append, List.length_append]
    congr 1
    have e : (1 + (m : Int)) = ((m + 1 : Nat) : Int) := by omega
    rw [List.map_cons, List.map_nil, e]
    by_cases z : w.fits ((m + 1 : Nat) : Int) = true
    · rw [List.filter_cons, if_pos z, if_pos z]; rfl
    · rw [List.filter_cons, if_neg z, if_neg z]; rfl
theorem sumN_ind (p : Nat → Bool) : ∀ n, sumN (fun j => if p j = true then 1 else 0) n = ((List.range n).filter p).length
  | 0 => rfl
  | n + 1 => by
    show sumN _ n + _ = _
    rw [sumN_ind p n, List.range_succ, List.filter_append, List.length_append]
    congr 1
    show (if p n = true then 1 else 0) = _
    by_cases z : p n = true
    · rw [List.filter_cons, if_pos z, if_pos z]; rfl
    · rw [List.filter_cons, if_neg z, if_neg z]; rfl
theorem sumN_cut {f : Nat → Nat} {k : Nat} : ∀ {n}, k ≤ n → (∀ j, k ≤ j → j < n → f j = 0) → sumN f n = sumN f k
  | 0, h, _ => by have : k = 0 := by omega
                  subst this; rfl
  | n + 1, h, h0 => by
    by_cases c : k = n + 1
    · subst c; rfl
    · show sumN f n + f n = _
      rw [sumN_cut (n := n) (by omega) fun j a b => h0 j a (by omega), h0 n (by omega) (by omega)]; omega
/-- as many sums as there are, row by row -/
theorem cnt_tot {a b : Nat} (ha : 0 < a) (hb : 0 < b) (hg : gcdI (a : Int) (b : Int) = 1) (M : Nat) :
    cntP (fun s => isSum (a : Int) (b : Int) (s : Int)) M + 1 = sumN (fun j => if a * j ≤ M then (M - a * j) / b + 1 else 0) b := by
  obtain ⟨h, hh⟩ : ∃ h : Nat → Nat → Nat, h = fun j M => if a * j ≤ M then (M - a * j) / b + 1 else 0 := ⟨_, rfl⟩
  have diff : ∀ j M, h j (M + 1) = h j M + if (decide (a * j ≤ M + 1) && decide (b ∣ M + 1 - a * j)) = true then 1 else 0 := fun j M => by
    rw [hh]
    show (if a * j ≤ M + 1 then (M + 1 - a * j) / b + 1 else 0) = (if a * j ≤ M then (M - a * j) / b + 1 else 0) + _
    by_cases c : a * j ≤ M
    · rw [if_pos c, if_pos (show a * j ≤ M + 1 by omega), decide_eq_true (show a * j ≤ M + 1 by omega), Bool.true_and, show M + 1 - a * j = (M - a * j) + 1 by omega, Nat.succ_div]
      by_cases d : b ∣ M - a * j + 1
      · rw [if_pos d, if_pos (by simpa using d)]; try omega
      · rw [if_neg d, if_neg (by simpa using d)]
    · rw [if_neg c]
      by_cases d : a * j ≤ M + 1
      · have e : M + 1 - a * j = 0 := by omega
        rw [if_pos d, decide_eq_true d, e, if_pos (by simp)]
        simp
      · rw [if_neg d, decide_eq_false d]; rfl
  have one : ∀ M, sumN (fun j => if (decide (a * j ≤ M + 1) && decide (b ∣ M + 1 - a * j)) = true then 1 else 0) b = if isSum (a : Int) (b : Int) ((M + 1 : Nat) : Int) = true then 1 else 0 := fun M => by
    rw [sumN_ind (fun j => decide (a * j ≤ M + 1) && decide (b ∣ M + 1 - a * j))]
    have ef : (List.range b).filter (fun j => decide (a * j ≤ M + 1) && decide (b ∣ M + 1 - a * j)) = (List.range ((b : Int)).toNat).filter fun (k : Nat) => decide ((k : Int) * a ≤ ((M + 1 : Nat) : Int)) && decide ((((M + 1 : Nat) : Int) - (k : Int) * a) % b = 0) := by
      rw [Int.toNat_natCast]
      refine List.filter_congr fun j hj => ?_
      by_cases c : a * j ≤ M + 1
      · have c' : (j : Int) * a ≤ ((M + 1 : Nat) : Int) := by rw [Int.mul_comm]; exact_mod_cast c
        rw [decide_eq_true c, decide_eq_true c', Bool.true_and, Bool.true_and, decide_eq_decide]
        have e : ((M + 1 : Nat) : Int) - (j : Int) * a = ((M + 1 - a * j : Nat) : Int) := by
          rw [Int.ofNat_sub c, Int.natCast_mul, Int.mul_comm (j : Int)]
        rw [e, ← Int.dvd_iff_emod_eq_zero, Int.natCast_dvd_natCast]
      · have c' : ¬ (j : Int) * a ≤ ((M + 1 : Nat) : Int) := by rw [Int.mul_comm]; exact_mod_cast c
        rw [decide_eq_false c, decide_eq_false c']; rfl
    have eS := isSum_k (a := (a : Int)) (b := (b : Int)) (s := ((M + 1 : Nat) : Int)) (by omega) (by omega) (by omega)
    rw [← ef] at eS
    rw [eS]
    cases hl : (List.range b).filter (fun j => decide (a * j ≤ M + 1) && decide (b ∣ M + 1 - a * j)) with
    | nil => rfl
    | cons t rest =>
      have uq : ∀ i ∈ (List.range b).filter (fun j => decide (a * j ≤ M + 1) && decide (b ∣ M + 1 - a * j)), i = t := fun i hi => by
        have ht : t ∈ (List.range b).filter (fun j => decide (a * j ≤ M + 1) && decide (b ∣ M + 1 - a * j)) := by rw [hl]; simp
        simp only [List.mem_filter, List.mem_range, Bool.and_eq_true, decide_eq_true_eq] at hi ht
        obtain ⟨i1, i2, i3⟩ := hi
        obtain ⟨t1, t2, t3⟩ := ht
        have key : ∀ {u v : Nat}, u < b → v < b → a * u ≤ M + 1 → a * v ≤ M + 1 → b ∣ M + 1 - a * u → b ∣ M + 1 - a * v → u ≤ v → u = v := fun {u v} hu hv h1 h2 h3 h4 huv => by
          have e : (M + 1 - a * u) - (M + 1 - a * v) = a * (v - u) := by
            have := Nat.mul_le_mul_left a huv
            rw [Nat.mul_sub]; omega
          have d : b ∣ a * (v - u) := by rw [← e]; exact Nat.dvd_sub h3 h4
          have d2 : (b : Int) ∣ (a : Int) * ((v - u : Nat) : Int) := by
            rw [← Int.natCast_mul]; exact Int.natCast_dvd_natCast.mpr d
          have d3 := Int.natCast_dvd_natCast.mp (dvd_of_coprime (by omega) hg d2)
          by_cases z : v - u = 0
          · omega
          · have := Nat.le_of_dvd (by omega) d3
            omega
        by_cases c : i ≤ t
        · exact key i1 t1 i2 t2 i3 t3 c
        · exact (key t1 i1 t2 i2 t3 i3 (by omega)).symm
      have := nodup_sing (List.Pairwise.filter _ List.nodup_range) (by rw [hl]; simp) uq
      rw [hl] at this
      rw [this]; rfl
  have tot : ∀ M, cntP (fun s => isSum (a : Int) (b : Int) (s : Int)) M + 1 = sumN (fun j => h j M) b := fun M => by
    induction M with
    | zero =>
      show 0 + 1 = _
      rw [sumN_cut (k := 1) (by omega) fun j j1 j2 => by
        rw [hh]
        have := Nat.mul_le_mul ha j1
        exact if_neg (by omega)]
      show 0 + 1 = 0 + h 0 0
      rw [hh]
      show 1 = 0 + (if a * 0 ≤ 0 then (0 - a * 0) / b + 1 else 0)
      rw [if_pos (by simp)]; simp
    | succ M ih =>
      show cntP _ M + (if isSum (a : Int) (b : Int) ((M + 1 : Nat) : Int) = true then 1 else 0) + 1 = _
      rw [sumN_congr (g := fun j => h j M + if (decide (a * j ≤ M + 1) && decide (b ∣ M + 1 - a * j)) = true then 1 else 0) fun j _ => diff j M, sumN_add, one M, ← ih]
      omega
  have t := tot M
  rw [hh] at t
  exact t
/-- the sums up to M of two without a common divisor -/
theorem cnt_cop {a b : Nat} (ha : 0 < a) (hb : 0 < b) (hg : gcdI (a : Int) (b : Int) = 1) (M : Nat) :
    cntP (fun s => isSum (a : Int) (b : Int) (s : Int)) M = flo (min (b - 1) (M / a) + 1) b a (M - a * min (b - 1) (M / a)) + min (b - 1) (M / a) := by
  obtain ⟨h, hh⟩ : ∃ h : Nat → Nat → Nat, h = fun j M => if a * j ≤ M then (M - a * j) / b + 1 else 0 := ⟨_, rfl⟩
  have tot : ∀ M, cntP (fun s => isSum (a : Int) (b : Int) (s : Int)) M + 1 = sumN (fun j => h j M) b := fun M => by
    rw [hh]; exact cnt_tot ha hb hg M
  have t := tot M
  obtain ⟨l, hl⟩ : ∃ l, min (b - 1) (M / a) = l := ⟨_, rfl⟩
  rw [hl]
  have hal : a * l ≤ M := by
    have h1 : l ≤ M / a := by omega
    have := Nat.mul_le_mul_left a h1
    have := Nat.mul_div_le M a
    omega
  rw [sumN_cut (k := l + 1) (by omega) fun j j1 j2 => by
    rw [hh]
    refine if_neg fun q => ?_
    have : j ≤ M / a := by rw [Nat.le_div_iff_mul_le ha, Nat.mul_comm]; exact q
    omega] at t
  have e2 : sumN (fun j => h j M) (l + 1) = sumN (fun j => (M - a * j) / b) (l + 1) + (l + 1) := by
    rw [sumN_congr (g := fun j => (M - a * j) / b + 1) fun j hj => by
      rw [hh]
      have := Nat.mul_le_mul_left a (show j ≤ l by omega)
      exact if_pos (by omega), sumN_add, sumN_const]; omega
  rw [e2, sumN_rev] at t
  unfold flo
  rw [sumN_congr (g := fun k => (M - a * (l + 1 - 1 - k)) / b) fun k hk => by
    have : a * (l + 1 - 1 - k) + a * k = a * l := by rw [← Nat.mul_add]; congr 1; omega
    have e : M - a * (l + 1 - 1 - k) = a * k + (M - a * l) := by omega
    rw [e]]
  omega
/-- a common divisor is taken out -/
theorem cnt_part {l h g : Nat} (hl : 0 < l) (hh : 0 < h) (hg : gcdI (l : Int) (h : Int) = (g : Int)) (M : Nat) :
    cntP (fun s => isSum (l : Int) (h : Int) (s : Int)) M = cntP (fun s => isSum ((l / g : Nat) : Int) ((h / g : Nat) : Int) (s : Int)) (M / g) := by
  obtain ⟨g0, _⟩ := gcd_le (b := (h : Int)) (show (1 : Int) ≤ (l : Int) by omega)
  rw [hg] at g0
  have gp : 0 < g := by omega
  induction M with
  | zero => rw [Nat.zero_div]; rfl
  | succ M ih =>
    show cntP _ M + _ = _
    rw [ih, Nat.succ_div]
    have p := sum_part (s := ((M + 1 : Nat) : Int)) (show (1 : Int) ≤ (l : Int) by omega) (show (1 : Int) ≤ (h : Int) by omega) hg
    rw [Int.natCast_dvd_natCast, ← Int.natCast_ediv, ← Int.natCast_ediv, ← Int.natCast_ediv] at p
    by_cases d : g ∣ M + 1
    · rw [if_pos d]
      show _ = cntP _ (M / g) + _
      congr 1
      have e : (M + 1) / g = M / g + 1 := by rw [Nat.succ_div, if_pos d]
      rw [← e]
      by_cases q : isSum (l : Int) (h : Int) ((M + 1 : Nat) : Int) = true
      · rw [if_pos q, if_pos (p.mp q).2]
      · rw [if_neg q, if_neg fun z => q (p.mpr ⟨d, z⟩)]
    · rw [if_neg d, if_neg fun z => d (p.mp z).1]; rfl
end TW
set_option Elab.async false
set_option linter.all false
set_option maxRecDepth 100000
set_option maxHeartbeats 4000000
namespace TW
open PySem PySem.Spec PyProof.Rows L2 DL
def sp_floors : DSp := fun cs R => ∃ n m a b : Nat, cs = [.d (.int (n : Int)), .d (.int (m : Int)), .d (.int (a : Int)), .d (.int (b : Int))] ∧ 0 < m ∧ n ≤ 10 ^ 30 ∧ m ≤ 10 ^ 30 ∧ a ≤ 10 ^ 30 ∧ b ≤ 10 ^ 30 ∧ R (.int (flo n m a b : Nat)) cs
def sp_count_sums : DSp := fun cs R => ∃ l h M : Nat, cs = [.d (.int (l : Int)), .d (.int (h : Int)), .d (.int (M : Int))] ∧ 0 < l ∧ 0 < h ∧ l ≤ 10 ^ 29 ∧ h ≤ 10 ^ 29 ∧ M ≤ 10 ^ 29 ∧ R (.int (cntP (fun s => isSum (l : Int) (h : Int) (s : Int)) M : Nat)) cs
/-- a way of numbers that are not too great -/
def WayBd : Way → Prop
  | .non => True
  | .steps k => 1 ≤ k ∧ k ≤ 10 ^ 29
  | .sums l h => 1 ≤ l ∧ l ≤ 10 ^ 29 ∧ 1 ≤ h ∧ h ≤ 10 ^ 29
def cntW (w : Way) (M : Nat) : Nat := cntP (fun s => w.fits (s : Int)) M
def sp_count_by : DSp := fun cs R => ∃ (w : Way) (M : Nat), cs = [.d w.d, .d (.int (M : Int))] ∧ WayBd w ∧ M ≤ 10 ^ 29 ∧ R (.int (cntW w M : Nat)) cs
def sp_count_along : DSp := fun cs R => ∃ a b bx ax, ∃ M : Nat, cs = [.d (prD a b), .d (tI bx), .d (.int (ax : Nat)), .d (.int (M : Int))] ∧ PB a b bx ∧ ax < bx.length ∧ WayBd (wayF a b bx ax) ∧ M ≤ 10 ^ 29 ∧ R (.int (cntW (wayF a b bx ax) M : Nat)) cs
def w_floors_s1 : DTS := (wPar2 1 2 (msCons (mE (wVar 2)) (msCons (mE (wVar 1)) msNil)))
@[simp ↓] theorem w_floors_s1_ap (E : DEnds) (δ : DS) : w_floors_s1 E δ = (wPar2 1 2 (msCons (mE (wVar 2)) (msCons (mE (wVar 1)) msNil))) E δ := rfl
def w_floors_s2 : DTS := (wSeq (wPar2 0 3 (msCons (mE (wOp pDiv (wVar 5) (wVar 1))) (msCons (mE (wOp pMod (wVar 5) (wVar 1))) msNil))) w_floors_s1)
@[simp ↓] theorem w_floors_s2_ap (E : DEnds) (δ : DS) : w_floors_s2 E δ = (wSeq (wPar2 0 3 (msCons (mE (wOp pDiv (wVar 5) (wVar 1))) (msCons (mE (wOp pMod (wVar 5) (wVar 1))) msNil))) w_floors_s1) E δ := rfl
def w_floors_s3 : DTS := (wSeq (wSet 5 (mE (wOp pAddB (wOp pMulT (wVar 2) (wVar 0)) (wVar 3)))) w_floors_s2)
@[simp ↓] theorem w_floors_s3_ap (E : DEnds) (δ : DS) : w_floors_s3 E δ = (wSeq (wSet 5 (mE (wOp pAddB (wOp pMulT (wVar 2) (wVar 0)) (wVar 3)))) w_floors_s2) E δ := rfl
def w_floors_s4 : DTS := (wSeq (wPar2 2 3 (msCons (mE (wOp pMod (wVar 2) (wVar 1))) (msCons (mE (wOp pMod (wVar 3) (wVar 1))) msNil))) w_floors_s3)
@[simp ↓] theorem w_floors_s4_ap (E : DEnds) (δ : DS) : w_floors_s4 E δ = (wSeq (wPar2 2 3 (msCons (mE (wOp pMod (wVar 2) (wVar 1))) (msCons (mE (wOp pMod (wVar 3) (wVar 1))) msNil))) w_floors_s3) E δ := rfl
def w_floors_1 : DTS := (wSeq (wAug 4 pIAdd (wOp pAddB (wOp pMulT (wOp pDiv (wOp pMulT (wVar 0) (wOp pSubB (wVar 0) (wC (.int 1)))) (wC (.int 2))) (wOp pDiv (wVar 2) (wVar 1))) (wOp pMulT (wVar 0) (wOp pDiv (wVar 3) (wVar 1))))) w_floors_s4)
def w_floors_s5 : DTS := (wSeq (wWhile (wB (wOp pGt (wVar 0) (wC (.int 0)))) w_floors_1) (wRet (wVar 4)))
@[simp ↓] theorem w_floors_s5_ap (E : DEnds) (δ : DS) : w_floors_s5 E δ = (wSeq (wWhile (wB (wOp pGt (wVar 0) (wC (.int 0)))) w_floors_1) (wRet (wVar 4))) E δ := rfl
def w_floors : DTS := (wSeq (wSet 4 (mE (wC (.int 0)))) w_floors_s5)
def w_count_sums_s1 : DTS := (wRet (wOp pAddB (wCall [] sp_floors (wCons (wOp pAddB (wVar 4) (wC (.int 1))) (wCons (wVar 1) (wCons (wVar 0) (wCons (wOp pSubB (wVar 2) (wOp pMulT (wVar 0) (wVar 4))) wNil))))) (wVar 4)))
@[simp ↓] theorem w_count_sums_s1_ap (E : DEnds) (δ : DS) : w_count_sums_s1 E δ = (wRet (wOp pAddB (wCall [] sp_floors (wCons (wOp pAddB (wVar 4) (wC (.int 1))) (wCons (wVar 1) (wCons (wVar 0) (wCons (wOp pSubB (wVar 2) (wOp pMulT (wVar 0) (wVar 4))) wNil))))) (wVar 4))) E δ := rfl
def w_count_sums_s2 : DTS := (wSeq (wSet 4 (mE (wFn pMin2 (wCons (wOp pSubB (wVar 1) (wC (.int 1))) (wCons (wOp pDiv (wVar 2) (wVar 0)) wNil))))) w_count_sums_s1)
@[simp ↓] theorem w_count_sums_s2_ap (E : DEnds) (δ : DS) : w_count_sums_s2 E δ = (wSeq (wSet 4 (mE (wFn pMin2 (wCons (wOp pSubB (wVar 1) (wC (.int 1))) (wCons (wOp pDiv (wVar 2) (wVar 0)) wNil))))) w_count_sums_s1) E δ := rfl
def w_count_sums_s3 : DTS := (wSeq (wPar3 0 1 2 (msCons (mE (wOp pDiv (wVar 0) (wVar 3))) (msCons (mE (wOp pDiv (wVar 1) (wVar 3))) (msCons (mE (wOp pDiv (wVar 2) (wVar 3))) msNil)))) w_count_sums_s2)
@[simp ↓] theorem w_count_sums_s3_ap (E : DEnds) (δ : DS) : w_count_sums_s3 E δ = (wSeq (wPar3 0 1 2 (msCons (mE (wOp pDiv (wVar 0) (wVar 3))) (msCons (mE (wOp pDiv (wVar 1) (wVar 3))) (msCons (mE (wOp pDiv (wVar 2) (wVar 3))) msNil)))) w_count_sums_s2) E δ := rfl
def w_count_sums : DTS := (wSeq (wSet 3 (mE (wCall [] sp_common (wCons (wVar 0) (wCons (wVar 1) wNil))))) w_count_sums_s3)
def w_count_by_1 : DTS := (wRet (wCall [] sp_count_sums (wCons (wVar 3) (wCons (wVar 4) (wCons (wVar 1) wNil)))))
def w_count_by : DTS := (wMatch (wVar 0) [.seq [.val (.str "steps"), .cap 2] (wRet (wOp pDiv (wVar 1) (wVar 2))), .seq [.val (.str "sums"), .cap 3, .cap 4] w_count_by_1, .wild (wRet (wC (.int 0)))])
def w_count_along : DTS := (wRet (wCall [] sp_count_by (wCons (wCall [] sp_along (wCons (wVar 0) (wCons (wVar 1) (wCons (wVar 2) wNil)))) (wCons (wVar 3) wNil))))
theorem ln_floors : ∀ cs R, sp_floors cs R → cs.length = 4 := by
  intro cs R h
  unfold sp_floors at h
  repeat (obtain ⟨_, h⟩ := h)
  subst_vars; rfl
theorem ln_count_sums : ∀ cs R, sp_count_sums cs R → cs.length = 3 := by
  intro cs R h
  unfold sp_count_sums at h
  repeat (obtain ⟨_, h⟩ := h)
  subst_vars; rfl
theorem ln_count_by : ∀ cs R, sp_count_by cs R → cs.length = 2 := by
  intro cs R h
  unfold sp_count_by at h
  repeat (obtain ⟨_, h⟩ := h)
  subst_vars; rfl
theorem ln_count_along : ∀ cs R, sp_count_along cs R → cs.length = 4 := by
  intro cs R h
  unfold sp_count_along at h
  repeat (obtain ⟨_, h⟩ := h)
  subst_vars; rfl
end TW
set_option Elab.async false
set_option linter.all false
set_option maxRecDepth 100000
set_option maxHeartbeats 4000000
namespace TW
open PySem PySem.Spec PyProof.Rows L2 DL
theorem rd_floors : ∀ cs R, sp_floors cs R → w_floors (endsOf cs R) (start0 6 cs) := by
  rintro _ R ⟨n, m, a, b, rfl, m0, n1, m1, a1, b1, hR⟩
  simp -implicitDefEqProofs -dsimp [w_floors]
  refine while_plain (fun y δ => ∃ (f n' m' a' b' : Nat) (c5 : Cell), δ = [.d (.int (n' : Int)), .d (.int (m' : Int)), .d (.int (a' : Int)), .d (.int (b' : Int)), .d (.int (f : Int)), c5] ∧ (n' = 0 ∨ 0 < m') ∧ n' ≤ 10 ^ 30 ∧ m' ≤ 10 ^ 30 ∧ a' ≤ 10 ^ 30 ∧ b' ≤ 10 ^ 30 ∧ m' = y ∧ f + flo n' m' a' b' = flo n m a b) (fun δ => ∃ c0 c1 c2 c3 c5, δ = [c0, c1, c2, c3, .d (.int (flo n m a b : Nat)), c5]) m ⟨0, n, m, a, b, _, rfl, .inr m0, n1, m1, a1, b1, rfl, by omega⟩ ?_ ?_
  · rintro δ ⟨c0, c1, c2, c3, c5, rfl⟩
    (try simp -implicitDefEqProofs -dsimp)
    exact hR
  · rintro y δ ⟨f, n', m', a', b', c5, rfl, h0, h1, h2, h3, h4, rfl, hf⟩ K N T hK hN
    by_cases z : n' = 0
    · subst z
      (try simp -implicitDefEqProofs -dsimp)
      exact hN _ ⟨_, _, _, _, _, by rw [show f = flo n m a b from hf]⟩
    · have mp : 0 < m' := by omega
      (try simp -implicitDefEqProofs -dsimp)
      rw [if_pos (by omega)]
      simp -implicitDefEqProofs -dsimp [w_floors_1]
      have B := BIG_ge
      obtain ⟨A, hA⟩ : ∃ A, A = a' % m' := ⟨_, rfl⟩
      obtain ⟨b2, hb2⟩ : ∃ b2, b2 = b' % m' := ⟨_, rfl⟩
      have A1 : A < m' := by rw [hA]; exact Nat.mod_lt _ mp
      have b21 : b2 < m' := by rw [hb2]; exact Nat.mod_lt _ mp
      obtain ⟨Y, hY⟩ : ∃ Y, Y = (A * n' + b2) / m' := ⟨_, rfl⟩
      obtain ⟨r, hr⟩ : ∃ r, r = (A * n' + b2) % m' := ⟨_, rfl⟩
      obtain ⟨q, hq⟩ : ∃ q, q = n' * (n' - 1) / 2 * (a' / m') + n' * (b' / m') := ⟨_, rfl⟩
      have r1 : r < m' := by rw [hr]; exact Nat.mod_lt _ mp
      have An : A * n' + n' ≤ m' * n' := by
        have := Nat.mul_le_mul_right n' (show A + 1 ≤ m' by omega)
        rw [Nat.add_mul] at this; omega
      have Yn : Y ≤ n' := by
        have : A * n' + b2 < m' * (n' + 1) := by rw [Nat.mul_add]; omega
        have := Nat.div_lt_of_lt_mul this
        omega
      have eA : (a' : Int) % (m' : Int) = (A : Int) := by rw [hA]; push_cast; rfl
      have eB : (b' : Int) % (m' : Int) = (b2 : Int) := by rw [hb2]; push_cast; rfl
      have eY : ((A : Int) * (n' : Int) + (b2 : Int)) / (m' : Int) = (Y : Int) := by rw [hY]; push_cast; rfl
      have er : ((A : Int) * (n' : Int) + (b' : Int)) % (m' : Int) = (r : Int) := by
        rw [hr, hb2]; push_cast; rw [Int.add_emod_emod]
      have en : (n' : Int) - 1 = ((n' - 1 : Nat) : Int) := by omega
      have eq : (n' : Int) * ((n' : Int) - 1) / 2 * ((a' : Int) / (m' : Int)) + (n' : Int) * ((b' : Int) / (m' : Int)) = (q : Int) := by
        rw [hq, en]; push_cast; rfl
      have qa : (a' : Int) / (m' : Int) ≤ (a' : Int) := Int.ediv_le_self _ (by omega)
      have qa0 : 0 ≤ (a' : Int) / (m' : Int) := Int.ediv_nonneg (by omega) (by omega)
      have qb : (b' : Int) / (m' : Int) ≤ (b' : Int) := Int.ediv_le_self _ (by omega)
      have qb0 : 0 ≤ (b' : Int) / (m' : Int) := Int.ediv_nonneg (by omega) (by omega)
      have nn := Int.mul_le_mul (show (n' : Int) ≤ 10 ^ 30 by omega) (show (n' : Int) - 1 ≤ 10 ^ 30 by omega) (by omega) (by omega)
      have nn0 := Int.mul_nonneg (show 0 ≤ (n' : Int) by omega) (show 0 ≤ (n' : Int) - 1 by omega)
      have nh : (n' : Int) * ((n' : Int) - 1) / 2 ≤ (n' : Int) * ((n' : Int) - 1) := Int.ediv_le_self _ nn0
      have nh0 : 0 ≤ (n' : Int) * ((n' : Int) - 1) / 2 := Int.ediv_nonneg nn0 (by omega)
      obtain ⟨d1, d2⟩ := div_big (j := (m' : Int)) (by omega) (by omega)
      have d3 : 0 < m' ∧ m'.log2 < 9000 := ⟨mp, by simpa using d2⟩
      have nxt : ∃ f2 n2 m2 a2 b3 : Nat, ∃ c5 : Cell, ([.d (.int (((a' : Int) % m' * n' + b' % m') / m')), .d (.int ((a' : Int) % m')), .d (.int (m' : Int)), .d (.int (((a' : Int) % m' * n' + b') % m')), .d (.int ((f : Int) + ((n' : Int) * ((n' : Int) - 1) / 2 * ((a' : Int) / m') + (n' : Int) * ((b' : Int) / m')))), .d (.int ((a' : Int) % m' * n' + b' % m'))] : DS) = [.d (.int (n2 : Int)), .d (.int (m2 : Int)), .d (.int (a2 : Int)), .d (.int (b3 : Int)), .d (.int (f2 : Int)), c5] ∧ (n2 = 0 ∨ 0 < m2) ∧ n2 ≤ 10 ^ 30 ∧ m2 ≤ 10 ^ 30 ∧ a2 ≤ 10 ^ 30 ∧ b3 ≤ 10 ^ 30 ∧ m2 = A ∧ f2 + flo n2 m2 a2 b3 = flo n m a b := by
        refine ⟨f + q, Y, A, m', r, .d (.int ((a' : Int) % m' * n' + b' % m')), ?_, ?_, by omega, by omega, by omega, by omega, rfl, ?_⟩
        · rw [eA, eB, eY, er, eq, Int.natCast_add]
        · by_cases c : A = 0
          · left
            rw [hY, c, Nat.zero_mul, Nat.zero_add]; exact Nat.div_eq_of_lt b21
          · right; omega
        · rw [← hf, flo_mod (n := n') (m := m') (a := a') (b := b') mp, ← hq, ← hA, ← hb2]
          by_cases c : A = 0
          · have y0 : Y = 0 := by rw [hY, c, Nat.zero_mul, Nat.zero_add]; exact Nat.div_eq_of_lt b21
            rw [c, y0, flo_zero b21]
            show f + q + 0 = _
            omega
          · rw [flo_swap (n := n') (a := A) (by omega) A1 b21, ← hY, ← hr]; omega
      have fin := hK A _ A1 nxt
      refine ⟨mul_big (by omega) (by omega) (by omega) (by omega), by decide, d3, mul_big (by omega) (by omega) (by omega) (by omega), d3, mul_big (by omega) (by omega) (by omega) (by omega), mp, ?_, d3, mp, fin⟩
      rw [eA]
      exact mul_big (by omega) (by omega) (by omega) (by omega)
theorem rd_count_sums : ∀ cs R, sp_count_sums cs R → w_count_sums (endsOf cs R) (start0 5 cs) := by
  rintro _ R ⟨l, h, M, rfl, l0, h0, l1, h1, M1, hR⟩
  have B := BIG_ge
  obtain ⟨g0, g1⟩ := gcd_le (b := (h : Int)) (show (1 : Int) ≤ (l : Int) by omega)
  obtain ⟨g, hg⟩ : ∃ g : Nat, gcdI (l : Int) (h : Int) = (g : Int) := ⟨(gcdI (l : Int) (h : Int)).toNat, by omega⟩
  rw [hg] at g0 g1
  rw [cnt_part l0 h0 hg] at hR
  have cp := gcd_parts (b := (h : Int)) (show (1 : Int) ≤ (l : Int) by omega)
  have dl := gcd_dvd_l (l : Int) (h : Int)
  have dh := gcd_dvd_r (l : Int) (h : Int)
  rw [hg] at cp dl dh
  have dl := Int.natCast_dvd_natCast.mp dl
  have dh := Int.natCast_dvd_natCast.mp dh
  have ca : (l : Int) / (g : Int) = ((l / g : Nat) : Int) := by push_cast; rfl
  have cb : (h : Int) / (g : Int) = ((h / g : Nat) : Int) := by push_cast; rfl
  have cm : (M : Int) / (g : Int) = ((M / g : Nat) : Int) := by push_cast; rfl
  rw [ca, cb] at cp
  have pa : 0 < l / g := Nat.div_pos (Nat.le_of_dvd l0 dl) (by omega)
  have pb : 0 < h / g := Nat.div_pos (Nat.le_of_dvd h0 dh) (by omega)
  have la := Nat.div_le_self l g
  have lb := Nat.div_le_self h g
  have lm := Nat.div_le_self M g
  rw [cnt_cop pa pb cp] at hR
  obtain ⟨a, hqa⟩ : ∃ q, l / g = q := ⟨_, rfl⟩
  obtain ⟨b, hqb⟩ : ∃ q, h / g = q := ⟨_, rfl⟩
  obtain ⟨m, hqm⟩ : ∃ q, M / g = q := ⟨_, rfl⟩
  rw [hqa] at ca cp pa la hR
  rw [hqb] at cb cp pb lb hR
  rw [hqm] at cm lm hR
  have cq : (m : Int) / (a : Int) = ((m / a : Nat) : Int) := by push_cast; rfl
  have lq := Nat.div_le_self m a
  have q2 := Nat.mul_div_le m a
  obtain ⟨q, hq⟩ : ∃ q, m / a = q := ⟨_, rfl⟩
  rw [hq] at cq hR lq q2
  obtain ⟨t, ht⟩ : ∃ t, min (b - 1) q = t := ⟨_, rfl⟩
  rw [ht] at hR
  have ei : (if (q : Int) < (b : Int) - 1 then (q : Int) else (b : Int) - 1) = (t : Int) := by
    split <;> omega
  have at0 : a * t ≤ m := by
    have := Nat.mul_le_mul_left a (show t ≤ q by omega)
    omega
  have em : (m : Int) - (a : Int) * (t : Int) = ((m - a * t : Nat) : Int) := by
    rw [Int.ofNat_sub at0, Int.natCast_mul]
  have e1 : (t : Int) + 1 = ((t + 1 : Nat) : Int) := rfl
  simp -implicitDefEqProofs -dsimp [w_count_sums]
  refine ask_of (sp := sp_common) ⟨_, _, rfl, by omega, by omega, ?_⟩
  rw [hg]
  simp -implicitDefEqProofs -dsimp [ca, cb, cm, cq, ei]
  obtain ⟨d1, d2⟩ := div_big (j := (g : Int)) (by omega) (by omega)
  obtain ⟨d3, d4⟩ := div_big (j := (a : Int)) (by omega) (by omega)
  refine ⟨⟨by omega, by simpa using d2⟩, ⟨by omega, by simpa using d4⟩, mul_big (by omega) (by omega) (by omega) (by omega), ?_⟩
  refine ask_of (sp := sp_floors) ⟨t + 1, b, a, m - a * t, by rw [← em]; rfl, by omega, by omega, by omega, by omega, by omega, ?_⟩
  simp -implicitDefEqProofs -dsimp [ca, cb, cm, cq, ei]
  rw [Int.natCast_add] at hR
  exact hR
theorem cnt_mult {k : Nat} (hk : 0 < k) (M : Nat) : cntP (fun s => decide ((s : Int) % (k : Int) = 0)) M = M / k := by
  refine cnt_ind (f := fun m => m / k) (B := M) (Nat.zero_div k) (fun m _ => ?_) (Nat.le_refl M)
  show (m + 1) / k = m / k + _
  rw [Nat.succ_div]
  congr 1
  by_cases d : k ∣ m + 1
  · rw [if_pos d, if_pos (by rw [decide_eq_true_eq, ← Int.dvd_iff_emod_eq_zero]; exact Int.natCast_dvd_natCast.mpr d)]
  · rw [if_neg d, if_neg (by rw [decide_eq_true_eq, ← Int.dvd_iff_emod_eq_zero]; exact fun q => d (Int.natCast_dvd_natCast.mp q))]
theorem cnt_none (M : Nat) : cntP (fun _ => false) M = 0 := by
  induction M with
  | zero => rfl
  | succ M ih => show cntP _ M + 0 = 0; rw [ih]
theorem rd_count_by : ∀ cs R, sp_count_by cs R → w_count_by (endsOf cs R) (start0 5 cs) := by
  rintro _ R ⟨w, M, rfl, hw, hM, hR⟩
  have B := BIG_ge
  cases w with
  | non =>
    have : cntW .non M = 0 := cnt_none M
    rw [this] at hR
    unfold Way.d at hR ⊢
    simp -implicitDefEqProofs -dsimp [w_count_by]
    exact hR
  | steps k =>
    obtain ⟨k0, k1⟩ := hw
    obtain ⟨n, rfl⟩ : ∃ n : Nat, k = n := ⟨k.toNat, by omega⟩
    have : cntW (.steps (n : Int)) M = M / n := cnt_mult (by omega) M
    rw [this, Int.natCast_ediv] at hR
    unfold Way.d at hR ⊢
    simp -implicitDefEqProofs -dsimp [w_count_by]
    obtain ⟨d1, d2⟩ := div_big (j := (n : Int)) (by omega) (by omega)
    exact ⟨⟨by omega, by simpa using d2⟩, hR⟩
  | sums l h =>
    obtain ⟨l0, l1, h0, h1⟩ := hw
    obtain ⟨l, rfl⟩ : ∃ n : Nat, l = n := ⟨l.toNat, by omega⟩
    obtain ⟨h, rfl⟩ : ∃ n : Nat, h = n := ⟨h.toNat, by omega⟩
    unfold Way.d at hR ⊢
    simp -implicitDefEqProofs -dsimp [w_count_by, w_count_by_1]
    refine ask_of (sp := sp_count_sums) ⟨l, h, M, rfl, by omega, by omega, by omega, by omega, hM, ?_⟩
    (try simp -implicitDefEqProofs -dsimp)
    exact hR
theorem rd_count_along : ∀ cs R, sp_count_along cs R → w_count_along (endsOf cs R) (start0 4 cs) := by
  rintro _ R ⟨a, b, bx, ax, M, rfl, h, hx, hw, hM, hR⟩
  simp -implicitDefEqProofs -dsimp [w_count_along]
  refine ask_of (sp := sp_along) ⟨a, b, bx, ax, rfl, h, hx, ?_⟩
  (try simp -implicitDefEqProofs -dsimp)
  refine ask_of (sp := sp_count_by) ⟨_, M, rfl, hw, hM, ?_⟩
  (try simp -implicitDefEqProofs -dsimp)
  exact hR
end TW
set_option Elab.async false
set_option linter.all false
set_option maxRecDepth 100000
set_option maxHeartbeats 4000000
namespace DL
open PySem PySem.Spec PyProof.Rows L2
variable [Tb]
def obD (n : Str) (fs : List (Str × PyData)) : PyData := objD n fs
def putD1 (f : Str) (x : PyData) : List (Str × PyData) → List (Str × PyData)
  | [] => [(f, x)]
  | (g, y) :: r => if g = f then (g, x) :: r else (g, y) :: putD1 f x r
section
variable {K : PySem.W.Frag} {G : Hp}
/-- fields and what they stand for -/
def FldOk (K : PySem.W.Frag) (G : Hp) (ws : List (Str × V)) (fs : List (Str × PyData)) : Prop := ws.map (·.1) = fs.map (·.1) ∧ DnL K G (ws.map (·.2)) (fs.map (·.2))
theorem FldOk.nil : FldOk K G [] [] := ⟨rfl, .nil⟩
theorem FldOk.split {w : Str × V} {ws : List (Str × V)} {p : Str × PyData} {fs : List (Str × PyData)} (h : FldOk K G (w :: ws) (p :: fs)) : w.1 = p.1 ∧ Dn K G w.2 p.2 ∧ FldOk K G ws fs := by
  obtain ⟨h1, h2⟩ := h
  simp only [List.map_cons, List.cons.injEq] at h1 h2
  cases h2 with
  | cons a b => exact ⟨h1.1, a, h1.2, b⟩
theorem FldOk.join {w : Str × V} {ws : List (Str × V)} {p : Str × PyData} {fs : List (Str × PyData)} (h1 : w.1 = p.1) (h2 : Dn K G w.2 p.2) (h3 : FldOk K G ws fs) : FldOk K G (w :: ws) (p :: fs) := by
  refine ⟨?_, ?_⟩
  · simp only [List.map_cons, h1, h3.1]
  · exact .cons h2 h3.2
theorem FldOk.look {f : Str} {y : PyData} : ∀ {ws : List (Str × V)} {fs : List (Str × PyData)}, FldOk K G ws fs → fs.lookup f = some y → ∃ v, ws.lookup f = some v ∧ Dn K G v y
  | [], [], _, e => by cases e
  | [], _ :: _, h, _ => by cases h.1
  | _ :: _, [], h, _ => by cases h.1
  | (a, v) :: ws, (b, x) :: fs, h, e => by
    obtain ⟨h1, h2, h3⟩ := h.split
    have h1 : a = b := h1
    subst h1
    rw [List.lookup_cons] at e ⊢
    cases hb : f == a with
    | true => rw [hb] at e; cases e; exact ⟨v, rfl, h2⟩
    | false => rw [hb] at e; exact FldOk.look h3 e
theorem FldOk.none {f : Str} : ∀ {ws : List (Str × V)} {fs : List (Str × PyData)}, FldOk K G ws fs → fs.lookup f = none → ws.lookup f = none
  | [], [], _, _ => rfl
  | [], _ :: _, h, _ => by cases h.1
  | _ :: _, [], h, _ => by cases h.1
  | (a, v) :: ws, (b, x) :: fs, h, e => by
    obtain ⟨h1, _, h3⟩ := h.split
    have h1 : a = b := h1
    subst h1
    rw [List.lookup_cons] at e ⊢
    cases hb : f == a with
    | true => rw [hb] at e; cases e
    | false => rw [hb] at e; exact FldOk.none h3 e
theorem FldOk.put {f : Str} {v : V} {x : PyData} (hv : Dn K G v x) : ∀ {ws : List (Str × V)} {fs : List (Str × PyData)}, FldOk K G ws fs → FldOk K G (putF f v ws) (putD1 f x fs)
  | [], [], _ => .join rfl hv .nil
  | [], _ :: _, h => by cases h.1
  | _ :: _, [], h => by cases h.1
  | (a, u) :: ws, (b, y) :: fs, h => by
    obtain ⟨h1, h2, h3⟩ := h.split
    have h1 : a = b := h1
    subst h1
    unfold putF putD1
    split
    · exact .join rfl hv h3
    · exact .join rfl h2 (FldOk.put hv h3)
theorem FldOk.len {ws : List (Str × V)} {fs : List (Str × PyData)} (h : FldOk K G ws fs) : ws.length = fs.length := by
  have := congrArg List.length h.1
  simpa using this
end
/-- an object's data, looked at -/
def obC (x : PyData) (n : Str) (k : List (Str × PyData) → Prop) (_u : Stop k) : Prop := ∃ fs, x = obD n fs ∧ k fs
def fldC (x : PyData) (n f : Str) (k : PyData → Prop) (_u : Stop k) : Prop := ∃ fs y, x = obD n fs ∧ fs.lookup f = some y ∧ k y
/-- o.f -/
def wFld (n f : Str) (w : DE) : DE := fun δ R => w δ fun o δ1 => use o δ1 fun x => fldC x n f (fun y => R (.d y) δ1) .mk
/-- an object of one's own in a slot -/
def ownC (c : Option Cell) (n : Str) (k : Addr → List (Str × PyData) → Prop) (_u : Stop k) : Prop := ∃ a fs, c = some (.ob a n fs) ∧ k a fs
def wFldO (i : Nat) (n f : Str) : DE := fun δ R => ownC δ[i]? n (fun _ fs => ∃ y, fs.lookup f = some y ∧ R (.d y) δ) .mk
/-- the target self.f -/
def gA (i : Nat) (n f : Str) : DTG := fun x δ R => ownC δ[i]? n (fun a fs => fs.length < 900 ∧ R (δ.set i (.ob a n (putD1 f x fs)))) .mk
omit [Tb] in
@[simp ↓] theorem wFld_ap (n f : Str) (w : DE) (δ : DS) (R : Opd → DS → Prop) : wFld n f w δ R = (w δ fun o δ1 => use o δ1 fun x => fldC x n f (fun y => R (.d y) δ1) .mk) := rfl
omit [Tb] in
@[simp ↓] theorem wFldO_ap (i : Nat) (n f : Str) (δ : DS) (R : Opd → DS → Prop) : wFldO i n f δ R = ownC δ[i]? n (fun _ fs => ∃ y, fs.lookup f = some y ∧ R (.d y) δ) .mk := rfl
omit [Tb] in
@[simp ↓] theorem gA_ap (i : Nat) (n f : Str) (x : PyData) (δ : DS) (R : DS → Prop) : gA i n f x δ R = ownC δ[i]? n (fun a fs => fs.length < 900 ∧ R (δ.set i (.ob a n (putD1 f x fs)))) .mk := rfl
@[simp ↓] theorem ownC_some (a : Addr) (n : Str) (fs : List (Str × PyData)) (k : Addr → List (Str × PyData) → Prop) (u : Stop k) : ownC (some (.ob a n fs)) n k u = k a fs :=
  propext ⟨fun ⟨a', fs', e, h⟩ => by cases e; exact h, fun h => ⟨a, fs, rfl, h⟩⟩
theorem obD_inj {n : Str} {fs gs : List (Str × PyData)} (h : obD n fs = obD n gs) : fs = gs := by
  unfold obD at h
  simp only [PyData.dict.injEq, List.cons.injEq, true_and] at h
  have inj : ∀ {xs ys : List (Str × PyData)}, (xs.map fun p => (PyData.str p.1, p.2)) = (ys.map fun p => (PyData.str p.1, p.2)) → xs = ys := by
    intro xs
    induction xs with
    | nil => intro ys h; cases ys with | nil => rfl | cons y ys => cases h
    | cons x xs ih =>
      intro ys h
      cases ys with
      | nil => cases h
      | cons y ys =>
        simp only [List.map_cons, List.cons.injEq, Prod.mk.injEq, PyData.str.injEq] at h
        rw [ih h.2, Prod.ext h.1.1 h.1.2]
  exact inj h
@[simp ↓] theorem obC_of {n : Str} {fs : List (Str × PyData)} {k : List (Str × PyData) → Prop} {u : Stop k} : obC (obD n fs) n k u = k fs :=
  propext ⟨fun ⟨fs', e, h⟩ => by rw [obD_inj e]; exact h, fun h => ⟨fs, rfl, h⟩⟩
section
variable {X : Cx} {e : Expr} {f : Str} {pos : Pos} {n : Str} {C : Addr}
end
end DL
set_option Elab.async false
set_option linter.all false
set_option maxRecDepth 100000
set_option maxHeartbeats 4000000
namespace DL
open PySem PySem.Spec PyProof.Rows L2 StX
variable [Tb]
theorem RoomG.make {k : Nat} {A : Around} (r : RoomG (k + 1) A) (C : Addr) (us : List Value) (kw : List (Str × Value)) : RoomG k (A.under (.builtin "type.__call__" ⟨.ref C :: us, kw⟩)) :=
  ⟨r.rm.make C us kw, by
    simp only [Around.under, r.gd]
    rfl⟩
section
variable {X : Cx} {CX : CXT} {k : Nat} {f C : Addr} {fd : FuncData} {ps : List Str} {sp : Sp} {E : XK} {o e : Expr} {es : List Expr} {ta : TE} {t : TA} {m x : Str} {apos pos p : Pos}
end
section
variable {K : PySem.W.Frag} {B G H : Hp} {δ : DS} {σ : L2.St} {a C dx : Addr} {n : Str}
theorem opds_dn : ∀ {vs : List V} {xs : List PyData}, DnL K G vs xs → OpdsOk K G σ vs (xs.map Opd.d)
  | _, [], h => by cases h; exact .nil
  | _, _ :: _, h => by cases h with | cons a b => exact .cons a (opds_dn b)
theorem slots_d : ∀ xs : List PyData, slotsOf (xs.map Opd.d) = []
  | [] => rfl
  | _ :: xs => slots_d xs
theorem cells_d (xs : List PyData) : (xs.map Opd.d).map (cellOf δ) = xs.map Cell.d := by
  rw [List.map_map]
  rfl
end
def madeC (cs : List Cell) (n : Str) (k : List (Str × PyData) → Prop) (_u : Stop k) : Prop := ∃ a fs rest, cs = .ob a n fs :: rest ∧ k fs
@[simp ↓] theorem madeC_cons (a : Addr) (n : Str) (fs : List (Str × PyData)) (rest : List Cell) (k : List (Str × PyData) → Prop) (u : Stop k) : madeC (.ob a n fs :: rest) n k u = k fs :=
  propext ⟨fun ⟨a', fs', r', e, h⟩ => by cases e; exact h, fun h => ⟨a, fs, rest, rfl, h⟩⟩
/-- C(..) -/
def wMake (n : Str) (sp : DSp) (w : DA) : DE := fun δ R => w δ fun os δ1 => lkL os δ1 fun xs δ2 => ∀ a : Addr, ask sp (.ob a n [] :: xs.map Cell.d) (fun y cs => y = .none ∧ madeC cs n (fun fs => R (.d (obD n fs)) δ2) .mk) .mk
/-- o.m(..) -/
def wMeth (n m : Str) (sp : DSp) (w : DE) (wa : DA) : DE := fun δ R => w δ fun o δ1 => lk o δ1 fun x δ2 => obC x n (fun fs => fs.lookup m = none ∧ wa δ2 fun os δ3 => lkL os δ3 fun xs δ4 => ask sp (.d x :: xs.map Cell.d) (fun y _ => R (.d y) δ4) .mk) .mk
omit [Tb] in
@[simp ↓] theorem wMake_ap (n : Str) (sp : DSp) (w : DA) (δ : DS) (R : Opd → DS → Prop) : wMake n sp w δ R = (w δ fun os δ1 => lkL os δ1 fun xs δ2 => ∀ a : Addr, ask sp (.ob a n [] :: xs.map Cell.d) (fun y cs => y = .none ∧ madeC cs n (fun fs => R (.d (obD n fs)) δ2) .mk) .mk) := rfl
omit [Tb] in
@[simp ↓] theorem wMeth_ap (n m : Str) (sp : DSp) (w : DE) (wa : DA) (δ : DS) (R : Opd → DS → Prop) : wMeth n m sp w wa δ R = (w δ fun o δ1 => lk o δ1 fun x δ2 => obC x n (fun fs => fs.lookup m = none ∧ wa δ2 fun os δ3 => lkL os δ3 fun xs δ4 => ask sp (.d x :: xs.map Cell.d) (fun y _ => R (.d y) δ4) .mk) .mk) := rfl
section
variable {X : Cx} {k : Nat} {f C : Addr} {fd : FuncData} {ps : List Str} {sp : DSp} {o e : Expr} {es : List Expr} {w : DE} {wa : DA} {n m x : Str} {apos pos p : Pos}
end
end DL
set_option Elab.async false
set_option linter.all false
set_option maxRecDepth 100000
set_option maxHeartbeats 4000000
namespace DL
open PySem PySem.Spec PyProof.Rows L2 NdefX

/-- its words; the body is an expression, the suite stays empty -/
abbrev lamF (qual : Str) (params : Arguments) (scope : Scope) (cl : List (Str × Addr)) (c : Addr) : NF := ⟨"<lambda>", qual ++ "<lambda>", params, [], scope, cl, c⟩
/-- its object -/
abbrev lamO (F : NF) (body : Expr) (pm ctv : Value) : Obj := PySem.W.kla_obj F.name F.qual F.params body F.scope F.cl pm F.c ctv
/-- its parameters are bound by place -/
abbrev LamB (F : NF) (body : Expr) (ps : List Str) : Prop := ∀ (pm cv ctv : Value) (us : List Value), us.length = ps.length → bindArgs (PySem.W.kla_fn F.name F.qual F.params body F.scope F.cl pm cv ctv) ⟨us, []⟩ = pure (ps.zip us)
section
variable {P : Program} {w : World} {K : PySem.W.Frag} {mg : Str → Option Value} {base : Heap} {N ps fr : List Str} {F : NF} {f : Addr} {k : Nat} {body : Expr} {tb : TE}
/-- what its captured cells held when a frame began they hold still -/
theorem cells_on {fs : List Addr} {H H' : Hp} {h h' : Heap} {cl : List (Str × Addr)} {ws : List (Option V)} (C : CellsAt cl fr ws h H) (u : Un fs [] H H' h h') : CellsAt cl fr ws h' H' := by
  have on : ∀ {c : Addr} {v : Option Value}, H c = none → h.IsCell c v → h'.IsCell c v := fun {c v} n ⟨o, ho, hd⟩ => by
    obtain ⟨sl, e⟩ := u.any ho n (List.not_mem_nil)
    exact ⟨_, e, hd⟩
  refine ⟨C.len, fun y c e => ?_, C.inj, fun i y e => ?_⟩
  · obtain ⟨n, v, o, ho, hd⟩ := C.all y c e
    exact ⟨u.free c o ho n (List.not_mem_nil), v, on n ⟨o, ho, hd⟩⟩
  · obtain ⟨c, hc, hv⟩ := C.has i y e
    refine ⟨c, hc, fun v ev => ?_⟩
    obtain ⟨z, r, q⟩ := hv v ev
    exact ⟨z, r, on (C.all y c hc).1 q⟩
/-- the call itself -/
theorem code_lam {A : Around} {outer : List Env} {s : Shared} {H : Hp} {us : List Value} {vs : List V} {ws : List (Option V)} {pm ctv : Value} {Q : VK} (S : NScope N ps fr F.scope) (room : RoomG (k + 1) A) (e0 : Env0 P w K mg base A outer s H)
    (ho : s.heap.get? f = some (lamO F body pm ctv)) (hc : H F.c = some (LamX.CodeO F.c F.qual)) (C : CellsAt F.cl fr ws s.heap H) (r : Vals vs us) (hl : vs.length = ps.length) (hb : LamB F body ps)
    (hbody : PE (ncx CX0 P w K mg base N F f A outer s H E0) body tb) (h : tb (startF N vs ws) H Q) :
    codeAny (model P w) A (.call (.ref f) ⟨us, []⟩) (CR CX0 outer P w H s Q E0) s := by
  have lim : s.heap.NoLimit := e0.mod.nolimit.keeps fun b o e => (e0.bs b o e).1
  refine PySem.W.kla_callFunE room.rm.depth ho rfl S.co S.gen rfl (codeO_at e0.hok hc) ?_
  rw [hb _ _ _ us (r.length ▸ hl)]
  refine wpAny_pure (wpAny_newFunctionEnv S.nocell (fun ⟨n, _⟩ hy => S.par n (List.of_mem_zip hy).1) (fun h₁ hns hsb => ⟨lim.fresh _ hsb, ?_⟩) S.kind)
  show codeAny _ _ (.expr body (envF F f s.heap.objs.size)) _ _
  have kp : ∀ b o, s.heap.get? b = some o → h₁.get? b = some o := fun b o e => hsb.extBut b o (Nat.ne_of_lt (Heap.lt_size e)) (Heap.get?_push_of_some _ e)
  have I := inv_startN (CX := CX0) (E := E0) (F := F) (f := f) (tk := s.toks + (ps.zip us).length) S room.rm.hd e0 hl r C hns kp
  refine PySem.W.kla_codeExpr (wpAny_mono (hbody.run [] _ (startF N vs ws) H Q I h) ?_ fun _ _ z => z)
  rintro u z ⟨v, H', J, rv, q⟩
  exact ⟨v, H', J.os, J.bare, J.base, J.hok, rv, q⟩
end
/-- what is known of a lambda where the def that got it begins -/
structure LamAt (Z : Cx) (ps fr N : List Str) (F : NF) (f : Addr) (body : Expr) (ws : List (Option V)) : Prop where
  sc : NScope N ps fr F.scope
  obj : ∃ pm ctv, Z.s_0.heap.get? f = some (lamO F body pm ctv)
  new : Z.H_0 f = none
  nfs : f ∉ Z.fs
  ex : Z.ex = []
  cells : CellsAt F.cl fr ws Z.s_0.heap Z.H_0
  bind : LamB F body ps
/-- what its call asks and tells -/
def tActL (i : Nat) (f : Addr) (F : NF) (n : Nat) (N : List Str) (ws : List (Option V)) (ta : TA) (tb : TE) : TE := fun σ H Q => σ[i]? = some (some (.ref f)) ∧ ta σ H fun vs H1 => vs.length = n ∧ H1 F.c = some (LamX.CodeO F.c F.qual) ∧ tb (startF N vs ws) H1 Q
section
variable {Z : Cx} {ps fr N : List Str} {F : NF} {f : Addr} {body : Expr} {ws : List (Option V)} {k i : Nat} {a : Str} {e : Expr} {es : List Expr} {ta : TA} {tb : TE} {p pos : Pos}
theorem pe_actL (L : LamAt Z ps fr N F f body ws) (hr : RoomG (k + 1) Z.A) (hbody : ∀ (A : Around) (outer : List Env) (s : Shared) (H : Hp), RoomG k (A.deeper (envF F f s.heap.objs.size)) → PE (ncx CX0 Z.prog Z.w Z.K Z.mg Z.base N F f A outer s H E0) body tb)
    (hN : Z.N[i]? = some a) (hv : Vis Z.env.scope a) (ha : PA Z (e :: es) ta) (hd : (a == ("__debug__" : Str)) = false := by decide) (hcd : (a == ("__classdict__" : Str)) = false := by decide)
    (he : starEach (e :: es) Z.env = (false, eval e Z.env) :: starEach es Z.env := by rfl) (hpl : (backTo pos (starEach es Z.env)).any (·.1) = false := by rfl) :
    PE Z (.Call (.Name a p) (e :: es) [] pos) (tActL i f F ps.length N ws ta tb) := by
  obtain ⟨pm, ctv, ho⟩ := L.obj
  have at_ : ∀ {pins : List (Addr × Obj)} {σ : L2.St} {H : Hp} {s : Shared}, Inv Z pins σ H s → s.heap.get? f = some (lamO F body pm ctv) := fun I => I.base.keep f _ ho L.new L.nfs (by rw [L.ex]; exact List.not_mem_nil)
  refine ⟨fun pins s σ H Q I ⟨hs, ht⟩ => ?_⟩
  refine wpAny_Call_Name_kw (thn ((pe_var (pos := p) hN hv hd hcd).run pins s σ H (fun v H1 => v = .ref f ∧ H1 = H) I ⟨.ref f, hs, rfl, rfl⟩) fun u s1 ⟨v, H1, I1, r1, ev, eH⟩ => ?_)
  subst ev eH
  obtain rfl : u = Value.ref f := r1
  refine PySem.W.callWith_F (first := []) ⟨_, _, _, _, at_ I1⟩ (thn (ha.run pos pins s1 σ _ _ I1 ht) fun us s2 ⟨vs, H2, I2, r, hl, hc, q⟩ => ⟨⟨_, _, _, _, at_ I2⟩, ?_⟩) he hpl
  have C := cells_on L.cells (show Un Z.fs [] Z.H_0 H2 Z.s_0.heap s2.heap by have := I2.base; rw [L.ex] at this; exact this)
  have rc := code_lam L.sc hr I2.env0 (at_ I2) hc C r hl L.bind (hbody _ _ s2 H2 (hr.deeper _)) q
  show wpAny _ _ (call (.ref f) us) _ _ _
  refine wpAny_call (codeAny_mono rc ?_)
  rintro (err | _ | _ | _ | u) z back <;> first | exact False.elim back | exact I2.after back
end
end DL
set_option Elab.async false
set_option linter.all false
set_option maxRecDepth 100000
set_option maxHeartbeats 4000000
namespace DL
open PySem PySem.Spec PyProof.Rows L2 NdefX
variable [Tb]
/-- what the lambda tells of arguments, by its body's reading: n names, m of them parameters, ds what it captured -/
def tlOf (bw : DE) (n m : Nat) (ds : List PyData) (xs : List PyData) (k : PyData → Prop) : Prop := xs.length = m ∧ bw (start0 n ((xs ++ ds).map Cell.d)) fun o δ' => lk o δ' fun y _ => k y
/-- its call: the slot i holds it -/
def wAct (i : Nat) (f : Addr) (m : Hp) (tl : List PyData → (PyData → Prop) → Prop) (wa : DA) : DE := fun δ R => δ[i]? = some (.fv f m) ∧ wa δ fun os δ1 => lkL os δ1 fun xs δ2 => tl xs fun y => R (.d y) δ2
omit [Tb] in
@[simp ↓] theorem wAct_ap (i : Nat) (f : Addr) (m : Hp) (tl : List PyData → (PyData → Prop) → Prop) (wa : DA) (δ : DS) (R : Opd → DS → Prop) : wAct i f m tl wa δ R = (δ[i]? = some (.fv f m) ∧ wa δ fun os δ1 => lkL os δ1 fun xs δ2 => tl xs fun y => R (.d y) δ2) := rfl
section
variable {K : PySem.W.Frag} {B G H : Hp} {δ : DS} {σ : L2.St}
theorem startF_eq {N : List Str} {vs wv : List V} : startF N vs (wv.map some) = L2.start N (vs ++ wv) := by
  unfold startF L2.start
  rw [List.map_append, List.append_assoc, List.length_append, List.length_map, Nat.sub_sub]
/-- nothing of the slots is looked at any more -/
theorem Rel.bare (R : Rel K B G δ σ H) : Rel K B G [] [] H :=
  ⟨rfl, R.sg, R.sb, R.dj, fun i c o e => by simp at e, fun i j c c' a e => by simp at e, fun i c a e => by simp at e, R.tt⟩
/-- a function in front -/
theorem Rel.consFv {f : Addr} {m : Hp} (R : Rel K B G δ σ H) (h : Same m G) : Rel K B G (.fv f m :: δ) (some (.ref f) :: σ) H := by
  refine ⟨by simp [R.len], R.sg, R.sb, R.dj, fun i c o e1 e2 => ?_, fun i j c c' a e1 e2 m1 m2 => ?_, fun i c a e m => ?_, R.tt⟩
  · cases i with
    | zero => cases e1; cases e2; exact ⟨rfl, h⟩
    | succ i => exact R.ok i c o e1 e2
  · cases i with
    | zero => cases e1; cases m1
    | succ i =>
      cases j with
      | zero => cases e2; cases m2
      | succ j => exact congrArg _ (R.ap i j c c' a e1 e2 m1 m2)
  · cases i with
    | zero => cases e; cases m
    | succ i => exact R.fr i c a e m
/-- a lambda is made: its code object is known from now on -/
theorem Rel.lam {H1 : Hp} {c : Addr} {q : Str} (R : Rel K B G δ σ H) (e : LamX.ExtN H H1) (t : LamX.Tabs Tb.T H1) (hc : H1 c = some (LamX.CodeO c q)) : ∃ G1, Same G G1 ∧ G1 c = some (LamX.CodeO c q) ∧ Rel K B G1 δ σ H1 := by
  have sg : ∀ a o, G a = some o → H1 a = some o := fun a o q => e a o (R.sg a o q) (R.tt.n.g a o q)
  have sb : ∀ a o, B a = some o → H1 a = some o := fun a o q => e a o (R.sb a o q) (R.tt.n.b a o q).1
  have own : ∀ {i : Nat} {cl : Cell} {a : Addr}, δ[i]? = some cl → a ∈ cl.fp → H1 a = H a := fun {i cl a} e1 m => by
    obtain ⟨o, _, ok⟩ := R.at e1
    obtain ⟨x, ex⟩ := cell_tr ok m
    rw [ex]
    exact e a x ex (cell_te ok m x ex).1
  have bc : B c = none := by
    cases q : B c with
    | none => rfl
    | some o =>
      have := sb c o q
      rw [hc] at this
      cases this
      exact absurd rfl ((R.tt.n.b c _ q).2 _)
  have sG : Same G (upd G c (LamX.CodeO c q)) := fun a o h => by
    by_cases z : a = c
    · subst z
      rw [upd_same, ← sg a o h, hc]
    · rw [upd_ne z]
      exact h
  refine ⟨upd G c (LamX.CodeO c q), sG, upd_same, R.len, fun a o h => ?_, sb, fun a => ?_, fun i cl o e1 e2 => ?_, R.ap, fun i cl a e1 m => ?_, ⟨t, R.tt.n.updG fun ps z => LamX.codeO_ne ps z⟩⟩
  · by_cases z : a = c
    · subst z
      rw [upd_same] at h
      cases h
      exact hc
    · rw [upd_ne z] at h
      exact sg a o h
  · by_cases z : a = c
    · subst z
      exact .inr bc
    · rw [upd_ne z]
      exact R.dj a
  · exact (R.ok i cl o e1 e2).stay sG fun b hb => own e1 hb
  · obtain ⟨f1, f2⟩ := R.fr i cl a e1 m
    refine ⟨?_, f2⟩
    rw [upd_ne fun z => ?_]
    · exact f1
    · subst z
      obtain ⟨o, _, ok⟩ := R.at e1
      obtain ⟨x, ex⟩ := cell_tr ok m
      have := own e1 m
      rw [hc, ex] at this
      cases this
      exact absurd rfl ((cell_te ok m _ ex).2 _)
end
section
variable {Z : Cx} {ps fr N : List Str} {F : NF} {f : Addr} {body : Expr} {wv : List V} {ds : List PyData} {k i : Nat} {m : Hp} {a : Str} {e : Expr} {es : List Expr} {wa : DA} {bw : DE} {p pos : Pos}
theorem je_act (L : LamAt Z ps fr N F f body (wv.map some)) (hr : RoomG (k + 1) Z.A) (hc : m F.c = some (LamX.CodeO F.c F.qual)) (hd : DnL Z.K m wv ds)
    (hbody : ∀ (A : Around) (outer : List Env) (s : Shared) (H : Hp), RoomG k (A.deeper (envF F f s.heap.objs.size)) → JE (ncx CX0 Z.prog Z.w Z.K Z.mg Z.base N F f A outer s H E0) body bw)
    (hN : Z.N[i]? = some a) (hv : Vis Z.env.scope a) (ha : JA Z (e :: es) wa) (hdb : (a == ("__debug__" : Str)) = false := by decide) (hcd : (a == ("__classdict__" : Str)) = false := by decide)
    (he : starEach (e :: es) Z.env = (false, eval e Z.env) :: starEach es Z.env := by rfl) (hpl : (backTo pos (starEach es Z.env)).any (·.1) = false := by rfl) :
    JE Z (.Call (.Name a p) (e :: es) [] pos) (wAct i f m (tlOf bw N.length ps.length ds) wa) := by
    refine pe_le (pe_actL (tb := up Z.K bw) L hr hbody hN hv ha hdb hcd he hpl) ?_
    rintro pins s σ H Q I ⟨B, G, δ, R, rel, ⟨hi, hw⟩, kk⟩
    obtain ⟨o, hσ, rfl, sm⟩ := rel.at hi
    refine ⟨hσ, B, G, δ, _, rel, hw, fun vs H1 G1 os δ1 r1 s1 rel1 ok1 => ?_⟩
    obtain ⟨G2, δ2, xs, ⟨hl, q⟩, s2, rel2, dnl⟩ := lkL_ok rel1 ok1 r1
    have sG : Same m G2 := sm.trans (s1.trans s2)
    have all : DnL Z.K G2 (vs ++ wv) (xs ++ ds) := dnl.app (hd.mono sG)
    have od : OpdsOk Z.K G2 σ (vs ++ wv) ((xs ++ ds).map Opd.d) := opds_dn all
    have nd : (slotsOf ((xs ++ ds).map Opd.d)).Nodup := by rw [slots_d]; exact List.nodup_nil
    have rc := call_rel rel2 od nd
    rw [cells_d, slots_d] at rc
    refine ⟨by rw [dnl.len, hl], rel2.sg _ _ (sG _ _ hc), ?_⟩
    rw [startF_eq]
    refine ⟨_, G2, _, _, rel_start rc, q, fun v H' G' o δ' r s3 rel3 ok3 => ?_⟩
    obtain ⟨G4, δ4, y, ky, s4, rel4, dn⟩ := lk_ok rel3 ok3 r
    have back := call_back (os := []) (cs := []) rel2 .nil List.nodup_nil (s3.trans s4) (show Rel Z.K (hold B H1 δ2 (slotsOf [])) G4 [] (([] : List V).map some) H' from rel4.bare)
    exact kk v H' G4 (.d y) δ2 ky (s1.trans (s2.trans (s3.trans s4))) back dn
end
end DL
set_option Elab.async false
set_option linter.all false
set_option maxRecDepth 100000
set_option maxHeartbeats 4000000
namespace DL
open PySem PySem.Spec PyProof.Rows L2 NdefX
variable [Tb]
abbrev LTl := List PyData → (PyData → Prop) → Prop
abbrev LSp := LTl → List PyData → (PyData → Prop) → Prop
/-- the context of its body -/
abbrev takerX (P : Program) (w : World) (K : PySem.W.Frag) (mg : Str → Option Value) (base : Heap) (N : List Str) (qual : Str) (sc : Scope) (g : Addr) (cd : Value) (A : Around) (outer : List Env) (s : Shared) (H : Hp) : Cx := (cxOf CX0 P w K mg base N qual sc g cd A outer s H E0).nox
/-- the calls of the lambda in a context: by its promise -/
def Acts (Z : Cx) (f : Addr) (m : Hp) (tl : LTl) : Prop := ∀ (i : Nat) (a : Str) (e : Expr) (es : List Expr) (wa : DA) (p pos : Pos), Z.N[i]? = some a → Vis Z.env.scope a → JA Z (e :: es) wa → (a == ("__debug__" : Str)) = false → (a == ("__classdict__" : Str)) = false →
  starEach (e :: es) Z.env = (false, eval e Z.env) :: starEach es Z.env → (backTo pos (starEach es Z.env)).any (·.1) = false → JE Z (.Call (.Name a p) (e :: es) [] pos) (wAct i f m tl wa)
theorem Acts.je {Z : Cx} {f : Addr} {m : Hp} {tl : LTl} (h : Acts Z f m tl) {i : Nat} {a : Str} {e : Expr} {es : List Expr} {wa : DA} {p pos : Pos} (hN : Z.N[i]? = some a) (hv : Vis Z.env.scope a) (ha : JA Z (e :: es) wa) (hd : (a == ("__debug__" : Str)) = false := by decide) (hcd : (a == ("__classdict__" : Str)) = false := by decide)
    (he : starEach (e :: es) Z.env = (false, eval e Z.env) :: starEach es Z.env := by rfl) (hpl : (backTo pos (starEach es Z.env)).any (·.1) = false := by rfl) : JE Z (.Call (.Name a p) (e :: es) [] pos) (wAct i f m tl wa) := h i a e es wa p pos hN hv ha hd hcd he hpl
/-- its promise -/
structure FnL (P : Program) (w : World) (K : PySem.W.Frag) (mg : Str → Option Value) (base : Heap) (k : Nat) (g : Addr) (fd : FuncData) (ps : List Str) (sp : LSp) : Prop where
  len : ∀ tl xs R, sp tl xs R → xs.length + 1 = ps.length
  run : ∀ (A : Around) (outer : List Env) (s : Shared) (H : Hp) (args : Args) (f : Addr) (us : List Value) (vs : List V) (m : Hp) (tl : LTl) (xs : List PyData) (R : PyData → Prop) (B G : Hp) (Q : VK), RoomG k A → Env0 P w K mg base A outer s H → BindsTo s fd args (ps.zip (.ref f :: us)) → Vals vs us →
    Rel K B G (.fv f m :: xs.map Cell.d) ((V.ref f :: vs).map some) H → (∀ (N : List Str) (qual : Str) (sc : Scope) (cd : Value), Acts (takerX P w K mg base N qual sc g cd A outer s H) f m tl) → sp tl xs R →
    (∀ v H' G' y, R y → Same G G' → Rel K B G' [] [] H' → Dn K G' v y → Q v H') → codeAny (model P w) A (.call (.ref g) args) (CR CX0 outer P w H s Q E0) s
section
variable {P : Program} {w : World} {K : PySem.W.Frag} {mg : Str → Option Value} {base : Heap}
theorem FnL.mono {j k : Nat} {g : Addr} {fd : FuncData} {ps : List Str} {sp : LSp} (F : FnL P w K mg base j g fd ps sp) (h : j ≤ k) : FnL P w K mg base k g fd ps sp :=
  ⟨F.len, fun A outer s H args f us vs m tl xs R B G Q hr => F.run A outer s H args f us vs m tl xs R B G Q (hr.mono h)⟩
/-- THE RULE: by its body's reading, whatever the lambda -/
theorem okL {x qual : Str} {st : Stmt} {g : Addr} {fd : FuncData} {N ps : List Str} {k : Nat} {sp : LSp} {wb : Addr → Hp → LTl → DTS} (F : Fun K x qual st g fd) (S : FnScope N ps (defScope st)) (dl : ∀ tl xs R, sp tl xs R → xs.length + 1 = ps.length)
    (body : ∀ (cdv : Value) (A : Around) (outer : List Env) (s : Shared) (H : Hp) (f : Addr) (m : Hp) (tl : LTl), RoomG k (A.deeper (envOfC qual (defScope st) s.heap.objs.size g cdv)) → Acts (takerX P w K mg base N qual (defScope st) g cdv A outer s H) f m tl → JSs (takerX P w K mg base N qual (defScope st) g cdv A outer s H) (defBody st) (wb f m tl))
    (rd : ∀ f m tl xs R, sp tl xs R → wb f m tl { nx := fun _ => R .none, rt := fun x _ => R x } (start0 N.length (.fv f m :: xs.map Cell.d))) : FnL P w K mg base (k + 1) g fd ps sp := by
  obtain ⟨oc, od, kV, doc, pm, an, cdv, ct, osl, rfl, lk, hcd⟩ := F.ex
  refine ⟨dl, fun A outer s H args f us vs m tl xs R B G Q hr e0 hb r rel acts hs kk => ?_⟩
  have hl : (V.ref f :: vs).length = ps.length := by
    have h1 := rel.len
    have h2 := dl tl xs R hs
    simp only [List.length_map, List.length_cons] at h1 ⊢
    omega
  refine LamX.run_ofS lk hcd S hr.rm e0 hb (.cons (show L2.RelV (.ref f) (.ref f) from rfl) r) hl fun _ => ?_
  have hr2 := hr.deeper (envOfC qual (defScope st) s.heap.objs.size g cdv)
  refine ⟨_, (body cdv A outer s H f m tl hr2 (acts N qual (defScope st) cdv)).nox, B, G, _, { nx := fun _ => R .none, rt := fun x _ => R x }, rel_start rel, rd f m tl xs R hs, ?_⟩
  exact ⟨fun σ' H' G' δ' r sG rel' => kk _ H' G' _ r sG rel'.bare .non, fun v σ' H' G' x δ' r sG rel' dn => kk v H' G' x r sG rel'.bare dn, fun _ _ _ _ h => h.elim, fun _ _ _ _ h => h.elim⟩
end
section
variable {P : Program} {w : World} {K : PySem.W.Frag} {mg : Str → Option Value} {base : Heap}
/-- okD where the code object is known -/
theorem okDc {x qual : Str} {st : Stmt} {f c : Addr} {fd : FuncData} {N ps : List Str} {k : Nat} {sp : DSp} {wb : DTS} (F : Fun K x qual st f fd) (hc : fd.code = .ref c) (S : FnScope N ps (defScope st)) (dl : ∀ cs R, sp cs R → cs.length = ps.length)
    (body : ∀ (A : Around) (outer : List Env) (s : Shared) (H : Hp) (E : XK), RoomG k (A.deeper (envOfC qual (defScope st) s.heap.objs.size f (.ref c))) → JSs (cxOf CX0 P w K mg base N qual (defScope st) f (.ref c) A outer s H E).nox (defBody st) wb)
    (rd : ∀ cs R, sp cs R → wb (endsOf cs R) (start0 N.length cs)) : FnG P w K mg base CX0 (k + 1) f fd ps (liftSp K sp) := by
  obtain ⟨oc, od, kV, doc, pm, an, cdv, ct, osl, rfl, lk, hcd⟩ := F.ex
  obtain rfl : cdv = .ref c := hc
  refine fnG_of lk hcd S (fun vs H Q E ⟨B, G, cs, R, rel, hs, _⟩ => by rw [← dl cs R hs, ← rel.len, List.length_map]) fun A outer s H vs Q E hr ⟨B, G, cs, R, rel, hs, k⟩ => ?_
  refine ⟨_, (body A outer s H E hr).nox, B, G, _, endsOf cs R, rel_start rel, rd cs R hs, ?_⟩
  exact ⟨fun σ' H' G' δ' ⟨io, r⟩ sG rel' => k _ H' G' _ _ r sG (rel_end rel rel' sG io) .non, fun v σ' H' G' x δ' ⟨io, r⟩ sG rel' dn => k v H' G' x _ r sG (rel_end rel rel' sG io) dn, fun _ _ _ _ h => h.elim, fun _ _ _ _ h => h.elim⟩
end
/-- what captured slots hold: data -/
def capC1 (c : Option Cell) (k : PyData → Prop) (_u : Stop k) : Prop := ∃ x, c = some (.d x) ∧ k x
def capC : List Nat → DS → (List PyData → Prop) → Prop
  | [], _, k => k []
  | j :: js, δ, k => capC1 δ[j]? (fun x => capC js δ fun ds => k (x :: ds)) .mk
omit [Tb] in
@[simp ↓] theorem capC1_d (x : PyData) (k : PyData → Prop) (u : Stop k) : capC1 (some (.d x)) k u = k x := propext ⟨fun ⟨y, e, h⟩ => by cases e; exact h, fun h => ⟨x, rfl, h⟩⟩
omit [Tb] in
@[simp ↓] theorem capC_nil (δ : DS) (k : List PyData → Prop) : capC [] δ k = k [] := rfl
omit [Tb] in
@[simp ↓] theorem capC_cons (j : Nat) (js : List Nat) (δ : DS) (k : List PyData → Prop) : capC (j :: js) δ k = capC1 δ[j]? (fun x => capC js δ fun ds => k (x :: ds)) .mk := rfl
def askL (sp : LSp) (tl : LTl) (xs : List PyData) (R : PyData → Prop) (_u : Stop R) : Prop := sp tl xs R
def wLam (js : List Nat) (n m : Nat) (bw : DE) (sp : LSp) (wa : DA) : DE := fun δ R => wa δ fun os δ1 => lkL os δ1 fun xs δ2 => capC js δ2 fun ds => askL sp (tlOf bw n m ds) xs (fun y => R (.d y) δ2) .mk
omit [Tb] in
@[simp ↓] theorem wLam_ap (js : List Nat) (n m : Nat) (bw : DE) (sp : LSp) (wa : DA) (δ : DS) (R : Opd → DS → Prop) : wLam js n m bw sp wa δ R = (wa δ fun os δ1 => lkL os δ1 fun xs δ2 => capC js δ2 fun ds => askL sp (tlOf bw n m ds) xs (fun y => R (.d y) δ2) .mk) := rfl
omit [Tb] in
theorem askL_of {sp : LSp} {tl : LTl} {xs : List PyData} {R : PyData → Prop} {u : Stop R} (h : sp tl xs R) : askL sp tl xs R u := h
section
variable {K : PySem.W.Frag} {B G H : Hp} {δ : DS} {σ : L2.St}
theorem cap_ok (R : Rel K B G δ σ H) : ∀ {js : List Nat} {k : List PyData → Prop}, capC js δ k → ∃ (wv : List V) (ds : List PyData), js.map (slotAt σ) = wv.map some ∧ DnL K G wv ds ∧ k ds
  | [], k, h => ⟨[], [], rfl, .nil, h⟩
  | j :: js, k, h => by
    obtain ⟨x, e, h⟩ := h
    obtain ⟨wv, ds, e2, dn, hk⟩ := cap_ok R h
    obtain ⟨o, hσ, v, rfl, dv⟩ := R.at e
    exact ⟨v :: wv, x :: ds, by rw [List.map_cons, List.map_cons, e2, slotAt_of hσ], .cons dv dn, hk⟩
end
section
variable {X : Cx} {k j : Nat} {g c P : Addr} {fd : FuncData} {ps lps fr N : List Str} {sp : LSp} {x : Str} {params : Arguments} {body e : Expr} {es : List Expr} {scope : Scope} {js : List Nat} {bw : DE} {wa : DA} {lpos p pos : Pos}
theorem je_lam (F : FnL X.prog X.w X.K X.mg X.base k g fd ps sp) (hr : RoomG k X.A) (hj : j + 2 ≤ k) (hg : Gl X x) (hm : X.mg x = some (.ref g)) (hk : PySem.W.keepIn X.K (.ref g) = true) (hb : Binds X.K fd ps [])
    (TB : LamX.TabB X.base X.mg c P) (hcode : X.env.code = .ref c) (hT : (P, X.env.qual ++ "<lambda>") ∈ Tb.T) (hu : ∀ p ∈ Tb.T, p.1 = P → p.2 = X.env.qual ++ "<lambda>") (hdef : defaultsOf params X.env = ([], []))
    (S : NScope N lps fr scope) (hfree : ∀ y ∈ scope.names, y.2 = .free → X.env.scope.names.lookup y.1 = some .cell ∨ X.env.scope.names.lookup y.1 = some .free) (hfr : ∀ y ∈ fr, (y, NameKind.free) ∈ scope.names) (hjs : js.map (fun j => X.N[j]?) = fr.map some)
    (hbind : ∀ (q : Str) (cl : List (Str × Addr)) (c' : Addr), LamB (lamF q params scope cl c') body lps)
    (hbody : ∀ (A : Around) (outer : List Env) (s : Shared) (H : Hp) (f c' : Addr), RoomG j (A.deeper (envF (lamF X.env.qual params scope (cloFrom X.env.cells scope.names []) c') f s.heap.objs.size)) → JE (ncx CX0 X.prog X.w X.K X.mg X.base N (lamF X.env.qual params scope (cloFrom X.env.cells scope.names []) c') f A outer s H E0) body bw)
    (ha : JA X (e :: es) wa) (hdb : (x == ("__debug__" : Str)) = false := by decide)
    (he : starEach (.Lambda params body scope lpos :: e :: es) X.env = (false, eval (.Lambda params body scope lpos) X.env) :: starEach (e :: es) X.env := by rfl) (hpl : (backTo pos (starEach (e :: es) X.env)).any (·.1) = false := by rfl) :
    JE X (.Call (.Name x p) (.Lambda params body scope lpos :: e :: es) [] pos) (wLam js N.length lps.length bw sp wa) := by
  refine ⟨fun pins s σ H Q I ⟨B, G, δ, R, rel, hw, kk⟩ => ?_⟩
  refine wpAny_Call_Name_kw (ld_glob I hg hm ?_ hdb)
  refine PySem.W.callWith_K (h₀ := X.base) I.ok.mod.kin hk ?_ he hpl
  show wpAny _ _ (spliced (backTo pos (starEach (.Lambda params body scope lpos :: e :: es) X.env))) _ _ s
  rw [he]
  refine Calls.spliced_cons (LamX.lam_make2 I TB hcode hT hu rel.tt.t hdef (fun y hy z => (hfree y hy z).elim (fun q => I.ok.has _ (.inl q)) fun q => I.ok.has _ (.inr q)) fun f c' pm ctv H1 s' I1 eN T1 hf hfn hfr' hco => ?_)
  obtain ⟨G1, sG, gc, rel1⟩ := rel.lam eN T1 hco
  have nofs : f ∉ X.fs := fun z => hfr' (by
    rcases I1.ok.stk with q | ⟨q, hf'⟩
    · rw [q]; exact z
    · rw [q]
      unfold frs
      rw [List.filterMap_cons, hf']
      exact List.mem_cons_of_mem _ z)
  have noL : f ≠ X.env.locals := fun z => by
    obtain ⟨m, ⟨o, es', ep, ho, hd, _⟩, _⟩ := I1.loc
    rw [← z, hf] at ho
    cases ho
    cases hd
  have Ip : Inv X ((f, lamO (lamF X.env.qual params scope (cloFrom X.env.cells scope.names []) c') body pm ctv) :: pins) σ H1 s' := I1.pins_of fun q hq => by
    rcases List.mem_cons.mp hq with rfl | hq
    · exact ⟨hf, hfn, noL, nofs, fun v z => by cases z⟩
    · exact I1.pin q (List.mem_append_right _ hq)
  show wpAny _ _ (spliced (backTo pos (starEach (e :: es) X.env))) _ _ s'
  refine thn (ha.run pos _ s' σ H1 (fun vs H2 => ∃ G2 δ2 xs, Same G1 G2 ∧ Rel X.K B G2 δ2 σ H2 ∧ DnL X.K G2 vs xs ∧ capC js δ2 fun ds => sp (tlOf bw N.length lps.length ds) xs fun y => R (.d y) δ2) Ip ⟨B, G1, δ, _, rel1, hw, fun vs H2 G2 os δ1 r1 s1 rel2 ok1 => by
    obtain ⟨G3, δ3, xs, q, s2, rel3, dnl⟩ := lkL_ok rel2 ok1 r1
    exact ⟨G3, δ3, xs, s1.trans s2, rel3, dnl, q⟩⟩) ?_
  rintro us s2 ⟨vs, H2, I2, r, G2, δ2, xs, s1, rel2, dnl, hq⟩
  obtain ⟨wv, ds, ews, dds, hsp⟩ := cap_ok rel2 hq
  refine ⟨I2.kIn, ?_⟩
  have od : OpdsOk X.K G2 σ vs (xs.map Opd.d) := opds_dn dnl
  have nd : (slotsOf (xs.map Opd.d)).Nodup := by rw [slots_d]; exact List.nodup_nil
  have rc := call_rel rel2 od nd
  rw [cells_d, slots_d] at rc
  obtain ⟨p1, p2, _⟩ := I2.pin _ (List.mem_append_right _ (List.mem_cons_self ..))
  have cp : Caps X (cloFrom X.env.cells scope.names []) fr js := Caps.made I2.ok hfree hfr hjs
  have CA := cells_of I2 cp
  rw [ews] at CA
  have lens : (Value.ref f :: us ++ []).length = ps.length := by
    have h1 := F.len _ _ _ hsp
    have h2 := r.length
    have h3 := dnl.len
    simp only [List.append_nil, List.length_cons]
    omega
  have bound := hb s2 (.ref f :: us) I2.kIn lens
  rw [List.append_nil] at bound
  obtain ⟨k', rfl⟩ : ∃ k', k = k' + 1 := ⟨k - 1, by omega⟩
  have rc := F.run X.A X.stack s2 H2 ⟨.ref f :: us, []⟩ f us vs G2 (tlOf bw N.length lps.length ds) xs (fun y => R (.d y) δ2) _ G2 Q hr I2.env0 bound r (rc.consFv (Same.refl _)) (fun Ng qg sg cdg i a e es wa p pos hN hv ha hd hcd he hpl =>
    je_act (k := j) ⟨S, ⟨pm, ctv, p1⟩, p2, hfr', rfl, CA, hbind _ _ _⟩ ((hr.deeper _).mono (by omega)) (s1 _ _ gc) dds (fun A outer s H hr => hbody A outer s H f c' hr) hN hv ha hd hcd he hpl) hsp fun v H' G' y hy s3 relE dn =>
      kk v H' G' (.d y) δ2 hy (sG.trans (s1.trans s3)) (call_back (os := []) (cs := []) rel2 .nil List.nodup_nil s3 (show Rel X.K (hold B H2 δ2 (slotsOf [])) G' [] (([] : List V).map some) H' from relE)) dn
  show wpAny _ _ (call (.ref g) (.ref f :: us)) _ _ _
  refine wpAny_call (codeAny_mono rc ?_)
  rintro (err | _ | _ | _ | u) z back <;> first | exact False.elim back | skip
  obtain ⟨v, H', J, rv, q⟩ := I2.after back
  exact ⟨v, H', J.pins_of fun q hq => J.pin q (List.mem_append_right _ (List.mem_cons_of_mem _ hq)), rv, q⟩
end
end DL
set_option Elab.async false
set_option linter.all false
set_option maxRecDepth 100000
set_option maxHeartbeats 4000000
namespace DL
open PySem PySem.Spec PyProof.Rows L2
/-- the tables are tracked, empty; and the script -/
noncomputable def tabH (K : PySem.W.Frag) (a : Addr) (vs : List Value) (ns : List Int) (cs : List (Addr × Addr)) : Hp := by
  classical
  exact fun b => if b ∈ cs.map Prod.snd then some (.tbl #[]) else scrH K a vs ns b
/-- how the makers' code objects stand when the law is called -/
structure Tabled (K : PySem.W.Frag) (h : Heap) (cs : List (Addr × Addr)) : Prop where
  code : ∀ p ∈ cs, PySem.W.CodeHd h p.1 p.2
  tab : ∀ p ∈ cs, h.get? p.2 = some (PySem.W.tabObj #[])
  off : ∀ p ∈ cs, K.lookup p.2 = none
/-- one parameter, the promise over every base that knows the tables -/
abbrev OneArgT (P : Program) (w : World) (K : PySem.W.Frag) (mg : Str → Option Value) (k : Nat) (fa : Addr) (x : Str) (sp : Sp) (cs : List (Addr × Addr)) (fd : FuncData) : Prop :=
  (∀ (s : Shared) (u : Value), BindsTo s fd ⟨[u], []⟩ [(x, u)]) ∧ ∀ base : Heap, K.In base → base.Ns mainGlobals mg → (∀ p ∈ cs, LamX.TabB base mg p.1 p.2) → FnG P w K mg base CX0 k fa fd [x] sp
theorem lawT {P : Program} {w : World} {K : PySem.W.Frag} {mg : Str → Option Value} {k : Nat} {fa a : Addr} {fd : FuncData} {x : Str} {sp : Sp} {s₁ : Shared} {vs : List Value} {ns : List Int} {cs : List (Addr × Addr)}
    (B : Began K mg s₁.heap) (hg : s₁.gens = #[]) (S : Script s₁.heap a vs ns) (Y : Tabled K s₁.heap cs) (hm : ∃ (bm : Addr) (ob : Obj), mg "__builtins__" = some (.ref bm) ∧ bm ≠ builtinsNs ∧ s₁.heap.get? bm = some ob ∧ ob.cls = .type "module" ∧ ob.dict = some builtinsNs ∧ ob.data = .plain)
    (hr : Room k callerA) (F : OneArgT P w K mg k fa x sp cs fd) (hsp : ∀ H : Hp, (∀ p ∈ cs, H p.2 = some (.tbl #[])) → SqL K H a (ns.map V.int) → sp [.ref a] H (fun v _ => v = .bl true) fun _ _ _ => False) :
    codeAny (model P w) callerA (.call (.ref fa) ⟨[.ref a], []⟩) (fun r z => r = .ok (.ret (.bool true)) ∧ OldK s₁.heap z.heap ∧ z.os = s₁.os ∧ AllBare z.gens) s₁ := by
  obtain ⟨KX, hns, ⟨mb, hb, hbb⟩, hlim⟩ := B
  obtain ⟨ha, hi, hl⟩ := S
  obtain ⟨hbind, F⟩ := F
  have rv := vals_ints hi
  have isT : ∀ {b : Addr}, b ∈ cs.map Prod.snd → s₁.heap.get? b = some (PySem.W.tabObj #[]) := fun h => by
    obtain ⟨p, hp, rfl⟩ := List.mem_map.mp h
    exact Y.tab p hp
  have aT : a ∉ cs.map Prod.snd := fun h => by
    have := isT h
    rw [ha] at this
    cases this
  obtain ⟨T, eT⟩ : ∃ T, tabH K a vs ns cs = T := ⟨_, rfl⟩
  have onT : ∀ {b : Addr}, b ∈ cs.map Prod.snd → T b = some (.tbl #[]) := fun h => by rw [← eT]; unfold tabH; exact if_pos h
  have offT : ∀ {b : Addr}, b ∉ cs.map Prod.snd → T b = scrH K a vs ns b := fun h => by rw [← eT]; unfold tabH; exact if_neg h
  have cases_ : ∀ {b : Addr} {u : HO}, T b = some u → (b ∈ cs.map Prod.snd ∧ u = .tbl #[]) ∨ (b = a ∧ K.lookup a = none ∧ u = .frz { cls := .type "list", data := .seq vs.toArray } (.lst (ns.map V.int))) := fun {b u} h => by
    by_cases m : b ∈ cs.map Prod.snd
    · rw [onT m] at h
      cases h
      exact .inl ⟨m, rfl⟩
    · rw [offT m] at h
      exact .inr (scrH_some h)
  have reads : SqL K T a (ns.map V.int) := by
    cases hk : K.lookup a with
    | none => exact .inl (.inr ⟨_, by rw [offT aT]; exact scrH_at hk⟩)
    | some o =>
      have e := KX a o hk
      rw [ha] at e
      cases e
      exact .inr ⟨_, vs.toArray, _, hk, rfl, rfl, rfl, by rw [List.size_toArray, hi.length]; exact hl, by simpa using rv⟩
  have hok : HOk P w T s₁.heap := fun b u q => by
    rcases cases_ q with ⟨m, rfl⟩ | ⟨rfl, _, rfl⟩
    · exact isT m
    · exact ⟨ha, (List.length_map (as := ns) V.int).symm ▸ hl, vs, _, rv, ha⟩
  have free : ∀ {b : Addr} {o : Obj}, s₁.heap.get? b = some o → (∀ vs n, o.data ≠ .seq vs n) → o.data ≠ .fields #[] → T b = none := fun {b o} e d d2 => by
    cases q : T b with
    | none => rfl
    | some u =>
      rcases cases_ q with ⟨m, _⟩ | ⟨rfl, _, _⟩
      · rw [isT m] at e
        cases e
        exact absurd rfl d2
      · rw [ha] at e
        cases e
        exact absurd rfl (d _ _)
  have names : ∀ {b : Addr} {m : Str → Option Value}, s₁.heap.Ns b m → (hidT s₁.heap T).Ns b m := fun {b m} ⟨o, es, ep, e, d, r⟩ =>
    ⟨o, es, ep, hidT_get e (free e (fun _ _ z => by rw [d] at z; cases z) fun z => by rw [d] at z; cases z), d, r⟩
  have kIn : K.In (hidT s₁.heap T) := fun b o e => hidT_get (KX b o e) (by
    cases q : T b with
    | none => rfl
    | some u =>
      rcases cases_ q with ⟨m, _⟩ | ⟨rfl, h2, _⟩
      · obtain ⟨p, hp, rfl⟩ := List.mem_map.mp m
        rw [Y.off p hp] at e
        cases e
      · rw [h2] at e
        cases e)
  have md : Mod K mg (hidT s₁.heap T) := ⟨kIn, names hns, ⟨mb, names hb, hbb⟩, let ⟨mc, h1, h2⟩ := hlim; ⟨mc, names h1, h2⟩⟩
  have tabs : ∀ p ∈ cs, LamX.TabB (hidT s₁.heap T) mg p.1 p.2 := fun p hp => by
    have tp := Y.tab p hp
    obtain ⟨o, us, file, tf, flags, tg, inF, text, tt, e, r1, r2, r3, rest⟩ := Y.code p hp
    obtain ⟨bm, ob, b1, b2, b3, b4, b5, b6⟩ := hm
    obtain ⟨on, es, ep, en, dn, _⟩ := id hns
    refine ⟨⟨o, us, file, tf, flags, tg, inF, text, tt, hidT_get e (free e (fun _ _ z => by rw [r2] at z; cases z) fun z => ?_), r1, r2, r3, rest⟩, ⟨bm, ob, b1, b2, fun q => ?_, fun q => ?_, hidT_get b3 (free b3 (fun _ _ z => by rw [b6] at z; cases z) fun z => by rw [b6] at z; cases z), b4, b5, b6⟩, fun q => ?_⟩
    · rw [r2] at z
      cases z
      simp at r3
    · rw [q, en] at b3
      cases b3
      rw [dn] at b6
      cases b6
    · rw [q, tp] at b3
      cases b3
      cases b6
    · rw [q, tp] at en
      cases en
      cases dn
  have env : Env0 P w K mg (hidT s₁.heap T) callerA [] s₁ T :=
    { frames := rfl, mod := md, bs := fun b o e => of_hidT e, bsz := Nat.le_of_eq (hidT_size _ _), funs := trivial, frf := fun b hb => (nomatch (show b ∈ ([] : List Addr) from hb)), hok := hok, bare := .of_eq hg }
  have run := (F _ kIn (names hns) tabs).run callerA [] s₁ T ⟨[.ref a], []⟩ [.ref a] [.ref a] _ _ (roomG_caller hr) env (hbind s₁ (.ref a)) (.cons rfl .nil) (hsp T (fun p hp => onT (List.mem_map.mpr ⟨p, hp, rfl⟩)) reads)
  have back : ∀ {H' : Hp} {z : Shared}, Un (frs []) [] T H' s₁.heap z.heap → HOk P w H' z.heap → OldK s₁.heap z.heap := fun {H' z} un ok => by
    have plain : ∀ {b : Addr} {o : Obj}, b ∉ cs.map Prod.snd → s₁.heap.get? b = some o → z.heap.get? b = some o := fun {b o} nb e => by
      cases q : T b with
      | none => exact un.keep b o e q (List.not_mem_nil) (by simp)
      | some t =>
        rcases cases_ q with ⟨m, _⟩ | ⟨rfl, _, rfl⟩
        · exact absurd m nb
        · exact (ok b _ (un.frzs b _ _ q)).1.trans (ha.symm.trans e)
    have grown : ∀ {b : Addr}, b ∈ cs.map Prod.snd → ∃ more : Array Value, z.heap.get? b = some (PySem.W.tabObj more) := fun {b} m => by
      obtain ⟨more, q⟩ := un.tbls b #[] (onT m)
      exact ⟨_, ok b _ q⟩
    refine ⟨fun b o e => ?_, fun b o e => ?_⟩
    · by_cases m : b ∈ cs.map Prod.snd
      · obtain ⟨more, q⟩ := grown m
        rw [isT m] at e
        cases e
        obtain ⟨p, hp, rfl⟩ := List.mem_map.mp m
        exact .inr (.inl ⟨((Y.code p hp).tab (Y.tab p hp)).isCodeTable, rfl, #[], more, rfl, by rw [Array.empty_append]; exact q⟩)
      · exact .inl (plain m e)
    · by_cases m : b ∈ cs.map Prod.snd
      · obtain ⟨more, q⟩ := grown m
        exact ⟨_, q⟩
      · exact ⟨o, plain m e⟩
  refine codeAny_mono run ?_
  rintro (e | _ | _ | _ | u) z h <;> try exact False.elim h
  obtain ⟨v, H', os, bare, un, ok, rv', rfl⟩ := h
  cases (show u = Value.bool true from rv')
  exact ⟨rfl, back un ok, os, bare⟩
theorem walkT {l : PySem.W.OpenLaw} {n k : Nat} {q : Program} {loose : List Str} {XP : (Str → Option Value) → Heap → Prop} {YP : World → Heap → Prop} {d : DefRec} {K : Params → PySem.W.Frag} {sp : PySem.W.Frag → Sp} {x : Str} {cs : List (Addr × Addr)} {xs : List Str}
    (most : l.most = some n) (fits : n ≤ sizeLine) (plain : d.params.defaults = []) (room : Room k callerA) (code : ∀ (w : World) (h : Heap), YP w h → (K w.params).In h)
    (tabs : ∀ w : World, List.map (PySem.W.tabIn (K w.params)) xs = cs.map some) (recs : ∀ y ∈ xs, ∃ r, (recsOf q).find? (fun e => e.name == y) = some r) (offs : ∀ (w : World), ∀ p ∈ cs, (K w.params).lookup p.2 = none)
    (law : ∀ (w : World) (mg : Str → Option Value) (fa : Addr) (h : Heap), (K w.params).In h → h.Ns mainGlobals mg → mg d.name = some (.ref fa) → ∃ fd : FuncData, OneArgT l.prog w (K w.params) mg k fa x (sp (K w.params)) cs fd)
    (true' : ∀ (K : PySem.W.Frag) (H : Hp) (a : Addr) (ns : List Int), ns.length ≤ n → (∀ p ∈ cs, H p.2 = some (.tbl #[])) → SqL K H a (ns.map V.int) → sp K [.ref a] H (fun v _ => v = .bl true) fun _ _ _ => False) : PySem.W.WalkO q loose XP YP l.row.toRowW d [] (fun f vs => PySem.call f vs) :=
  Att.attach_call most plain fun w _ s₁ mg mb fa _ _ _ _ a vs ns G Y _ _ _ at_law at_a are few calm => by
    have KX := code w _ Y
    obtain ⟨_, F⟩ := law w mg fa _ KX G.T.g at_law
    have one : ∀ p ∈ cs, PySem.W.CodeHd s₁.heap p.1 p.2 ∧ s₁.heap.get? p.2 = some (PySem.W.tabObj #[]) := fun p hp => by
      have m : some p ∈ List.map (PySem.W.tabIn (K w.params)) xs := by rw [tabs w]; exact List.mem_map.mpr ⟨p, hp, rfl⟩
      obtain ⟨y, hy, ey⟩ := List.mem_map.mp m
      obtain ⟨r, er⟩ := recs y hy
      exact PySem.W.tab_of G.T KX er ey
    exact lawT ⟨KX, G.T.g, ⟨mb, G.T.b, G.T.builtins⟩, G.T.nolimit⟩ calm ⟨at_a, are, Nat.le_trans few fits⟩ ⟨fun p hp => (one p hp).1, fun p hp => (one p hp).2, offs w⟩ G.T.bmain room F fun H hT reads => true' _ H a ns few hT reads
theorem tu_of {T : List (Addr × Str)} {P : Addr} {q : Str} (h : (T.all fun p => !(p.1 == P) || p.2 == q) = true) : ∀ p ∈ T, p.1 = P → p.2 = q := by
  intro p hp e
  have := List.all_eq_true.mp h p hp
  simp only [e, beq_self_eq_true, Bool.not_true, Bool.false_or, beq_iff_eq] at this
  exact this
theorem tm_of {T : List (Addr × Str)} {p : Addr × Str} (h : (T.any fun x => x.1 == p.1 && x.2 == p.2) = true) : p ∈ T := by
  obtain ⟨x, hx, e⟩ := List.any_eq_true.mp h
  simp only [Bool.and_eq_true, beq_iff_eq] at e
  have : x = p := Prod.ext e.1 e.2
  exact this ▸ hx
theorem tabs_of {T : List (Addr × Str)} {H : Hp} (h : ∀ p ∈ T, H p.1 = some (.tbl #[])) : LamX.Tabs T H := fun p hp => ⟨#[], h p hp, (by first | exact True.intro | simp [TriplesOk]), fun pos cv e => by cases e⟩
theorem some_of {α : Type} {o : Option α} (h : o.isSome = true) : ∃ r, o = some r := Option.isSome_iff_exists.mp h
end DL
set_option Elab.async false
set_option linter.all false
set_option maxRecDepth 100000
set_option maxHeartbeats 4000000
namespace TW
open PySem PySem.Spec PyProof.Rows L2 DL
/-- the least number from 1 on of which something is so -/
def sp_least_with : LSp := fun tl xs R => ∃ (n : Int) (b : Int → Bool), xs = [.int n] ∧ 1 ≤ n ∧ (∀ x, 1 ≤ x → x ≤ n → ∀ k : PyData → Prop, k (.bool (b x)) → tl [.int x] k) ∧ b n = true ∧ (∀ x y, 1 ≤ x → x ≤ y → y ≤ n → b x = true → b y = true) ∧ ∀ r, 1 ≤ r → r ≤ n → b r = true → (∀ x, 1 ≤ x → x < r → b x = false) → R (.int r)
theorem ln_least_with : ∀ tl xs R, sp_least_with tl xs R → xs.length + 1 = 2 := by
  rintro _ _ R ⟨n, b, rfl, _⟩
  rfl
def sumP (l h : Nat) (s : Nat) : Bool := isSum (l : Int) (h : Int) (s : Int)
def sp_sum_at : DSp := fun cs R => ∃ l h N : Nat, cs = [.d (.int (l : Int)), .d (.int (h : Int)), .d (.int (N : Int))] ∧ 0 < l ∧ l < h ∧ h % l ≠ 0 ∧ h ≤ 10 ^ 13 ∧ N ≤ 10 ^ 13 ∧ ∀ r : Nat, 1 ≤ r → sumP l h r = true → cntP (sumP l h) r = N + 1 → R (.int (r : Int)) cs
def WaySm : Way → Prop
  | .non => True
  | .steps k => 1 ≤ k ∧ k ≤ 10 ^ 13
  | .sums l h => 1 ≤ l ∧ l < h ∧ h % l ≠ 0 ∧ h ≤ 10 ^ 13
def sp_numbered : DSp := fun cs R => ∃ (w : Way) (N : Nat), cs = [.d w.d, .d (.int (N : Int))] ∧ WaySm w ∧ N ≤ 10 ^ 13 ∧ (w = .non → R .none cs) ∧ ∀ r : Nat, 1 ≤ r → w.fits (r : Int) = true → cntW w r = N + 1 → R (.int (r : Int)) cs
def sp_next_side : DSp := fun cs R => ∃ a b bx ax, ∃ m : Nat, cs = [.d (prD a b), .d (tI bx), .d (.int (ax : Nat)), .d (.int (m : Int))] ∧ PB a b bx ∧ ax < bx.length ∧ WaySm (wayF a b bx ax) ∧ 1 ≤ m ∧ m ≤ 10 ^ 13 ∧ (wayF a b bx ax = .non → R .none cs) ∧
  ∀ r : Nat, m ≤ r → (wayF a b bx ax).fits (r : Int) = true → (∀ s : Nat, m ≤ s → s < r → (wayF a b bx ax).fits (s : Int) = false) → R (.int (r : Int)) cs
def w_least_with_s1 (f : Addr) (m : Hp) (tl : LTl) : DTS := (wAsgG (wIfE (wB (wAct 0 f m tl (wCons (wVar 4) wNil))) (wTup (wCons (wVar 2) (wCons (wVar 4) wNil))) (wTup (wCons (wOp pAddB (wVar 4) (wC (.int 1))) (wCons (wVar 3) wNil)))) (gT (gsCons (gN 2) (gsCons (gN 3) gsNil))))
@[simp ↓] theorem w_least_with_s1_ap (f : Addr) (m : Hp) (tl : LTl) (E : DEnds) (δ : DS) : w_least_with_s1 f m tl E δ = (wAsgG (wIfE (wB (wAct 0 f m tl (wCons (wVar 4) wNil))) (wTup (wCons (wVar 2) (wCons (wVar 4) wNil))) (wTup (wCons (wOp pAddB (wVar 4) (wC (.int 1))) (wCons (wVar 3) wNil)))) (gT (gsCons (gN 2) (gsCons (gN 3) gsNil)))) E δ := rfl
def w_least_with_1 (f : Addr) (m : Hp) (tl : LTl) : DTS := (wSeq (wSet 4 (mE (wOp pDiv (wOp pAddB (wVar 2) (wVar 3)) (wC (.int 2))))) (w_least_with_s1 f m tl))
def w_least_with_s2 (f : Addr) (m : Hp) (tl : LTl) : DTS := (wSeq (wWhile (wB (wOp pLt (wVar 2) (wVar 3))) (w_least_with_1 f m tl)) (wRet (wVar 2)))
@[simp ↓] theorem w_least_with_s2_ap (f : Addr) (m : Hp) (tl : LTl) (E : DEnds) (δ : DS) : w_least_with_s2 f m tl E δ = (wSeq (wWhile (wB (wOp pLt (wVar 2) (wVar 3))) (w_least_with_1 f m tl)) (wRet (wVar 2))) E δ := rfl
def w_least_with (f : Addr) (m : Hp) (tl : LTl) : DTS := (wSeq (wPar2 2 3 (msCons (mE (wC (.int 1))) (msCons (mE (wVar 1)) msNil))) (w_least_with_s2 f m tl))
def w_sum_at_s1 : DTS := (wRet (wLam [2, 0, 1] 4 1 (wOp pGt (wCall [] sp_count_sums (wCons (wVar 2) (wCons (wVar 3) (wCons (wVar 0) wNil)))) (wVar 1)) sp_least_with (wCons (wVar 3) wNil)))
@[simp ↓] theorem w_sum_at_s1_ap (E : DEnds) (δ : DS) : w_sum_at_s1 E δ = (wRet (wLam [2, 0, 1] 4 1 (wOp pGt (wCall [] sp_count_sums (wCons (wVar 2) (wCons (wVar 3) (wCons (wVar 0) wNil)))) (wVar 1)) sp_least_with (wCons (wVar 3) wNil))) E δ := rfl
def w_sum_at : DTS := (wSeq (wSet 3 (mE (wOp pAddB (wCall [] sp_joint (wCons (wVar 0) (wCons (wVar 1) wNil))) (wOp pMulT (wCall [] sp_common (wCons (wVar 0) (wCons (wVar 1) wNil))) (wOp pAddB (wVar 2) (wC (.int 1))))))) w_sum_at_s1)
def w_numbered_1 : DTS := (wRet (wOp pMulT (wVar 2) (wOp pAddB (wVar 1) (wC (.int 1)))))
def w_numbered_2 : DTS := (wRet (wCall [] sp_sum_at (wCons (wVar 3) (wCons (wVar 4) (wCons (wVar 1) wNil)))))
def w_numbered : DTS := (wMatch (wVar 0) [.seq [.val (.str "steps"), .cap 2] w_numbered_1, .seq [.val (.str "sums"), .cap 3, .cap 4] w_numbered_2, .wild (wRet (wC .none))])
def w_next_side_s1 : DTS := (wRet (wCall [] sp_numbered (wCons (wVar 4) (wCons (wCall [] sp_count_by (wCons (wVar 4) (wCons (wOp pSubB (wVar 3) (wC (.int 1))) wNil))) wNil))))
@[simp ↓] theorem w_next_side_s1_ap (E : DEnds) (δ : DS) : w_next_side_s1 E δ = (wRet (wCall [] sp_numbered (wCons (wVar 4) (wCons (wCall [] sp_count_by (wCons (wVar 4) (wCons (wOp pSubB (wVar 3) (wC (.int 1))) wNil))) wNil)))) E δ := rfl
def w_next_side : DTS := (wSeq (wSet 4 (mE (wCall [] sp_along (wCons (wVar 0) (wCons (wVar 1) (wCons (wVar 2) wNil)))))) w_next_side_s1)
theorem ln_sum_at : ∀ cs R, sp_sum_at cs R → cs.length = 3 := by
  intro cs R h
  unfold sp_sum_at at h
  repeat (obtain ⟨_, h⟩ := h)
  subst_vars; rfl
theorem ln_numbered : ∀ cs R, sp_numbered cs R → cs.length = 2 := by
  intro cs R h
  unfold sp_numbered at h
  repeat (obtain ⟨_, h⟩ := h)
  subst_vars; rfl
theorem ln_next_side : ∀ cs R, sp_next_side cs R → cs.length = 4 := by
  intro cs R h
  unfold sp_next_side at h
  repeat (obtain ⟨_, h⟩ := h)
  subst_vars; rfl
end TW
set_option Elab.async false
set_option linter.all false
set_option maxRecDepth 100000
set_option maxHeartbeats 4000000
namespace TW
open PySem PySem.Spec PyProof.Rows L2 DL
theorem rd_least_with : ∀ f m tl xs R, sp_least_with tl xs R → w_least_with f m tl { nx := fun _ => R .none, rt := fun x _ => R x } (start0 5 (.fv f m :: xs.map Cell.d)) := by
  rintro f m tl _ R ⟨n, b, rfl, n1, ht, hn, up, hR⟩
  simp -implicitDefEqProofs -dsimp [w_least_with]
  refine while_plain (fun y δ => ∃ (lo hi : Int) (c4 : Cell), δ = [.fv f m, .d (.int n), .d (.int lo), .d (.int hi), c4] ∧ 1 ≤ lo ∧ lo ≤ hi ∧ hi ≤ n ∧ b hi = true ∧ (∀ x, 1 ≤ x → x < lo → b x = false) ∧ (hi - lo).toNat = y)
    (fun δ => ∃ (lo hi : Int) (c4 : Cell), δ = [.fv f m, .d (.int n), .d (.int lo), .d (.int hi), c4] ∧ 1 ≤ lo ∧ lo ≤ n ∧ b lo = true ∧ ∀ x, 1 ≤ x → x < lo → b x = false) (n - 1).toNat ⟨1, n, .em, rfl, by omega, by omega, by omega, hn, fun x h1 h2 => by omega, rfl⟩ ?_ ?_
  · rintro δ ⟨lo, hi, c4, rfl, l1, l2, bl, low⟩
    (try simp -implicitDefEqProofs -dsimp)
    exact hR lo l1 l2 bl low
  · rintro y δ ⟨lo, hi, c4, rfl, l1, l2, l3, bh, low, rfl⟩ K N T hK hN
    (try simp -implicitDefEqProofs -dsimp)
    by_cases c : lo < hi
    · rw [if_pos c]
      obtain ⟨mid, em⟩ : ∃ mid, (lo + hi) / 2 = mid := ⟨_, rfl⟩
      simp -implicitDefEqProofs -dsimp [w_least_with_1, em]
      refine ⟨by decide, ht mid (by omega) (by omega) _ ?_⟩
      cases bm : b mid with
      | true =>
        (try simp -implicitDefEqProofs -dsimp)
        rw [em]
        exact hK _ _ (by omega) ⟨lo, mid, _, rfl, l1, by omega, by omega, bm, low, rfl⟩
      | false =>
        (try simp -implicitDefEqProofs -dsimp)
        rw [em]
        refine hK _ _ (by omega) ⟨mid + 1, hi, _, rfl, by omega, by omega, l3, bh, fun x h1 h2 => ?_, rfl⟩
        cases bx : b x with
        | false => rfl
        | true =>
          have := up x mid h1 (by omega) (by omega) bx
          rw [bm] at this
          cases this
    · rw [if_neg c]
      have e : lo = hi := by omega
      subst e
      exact hN _ ⟨lo, lo, _, rfl, l1, by omega, bh, low⟩
theorem cnt_le {p : Nat → Bool} {x : Nat} : ∀ y, cntP p x ≤ cntP p (x + y)
  | 0 => Nat.le_refl _
  | y + 1 => Nat.le_trans (cnt_le y) (Nat.le_add_right _ _)
theorem cnt_up {p : Nat → Bool} {x y : Nat} (h : x ≤ y) : cntP p x ≤ cntP p y := by
  obtain ⟨d, rfl⟩ := Nat.exists_eq_add_of_le h
  exact cnt_le d
theorem cnt_succ (p : Nat → Bool) (x : Nat) : cntP p (x + 1) = cntP p x + if p (x + 1) = true then 1 else 0 := rfl
/-- the first place behind which there are more than N -/
theorem cnt_first {p : Nat → Bool} {N r : Nat} (h1 : 1 ≤ r) (h : N < cntP p r) (low : ∀ x, 1 ≤ x → x < r → ¬ N < cntP p x) : p r = true ∧ cntP p r = N + 1 := by
  obtain ⟨x, rfl⟩ : ∃ x, r = x + 1 := ⟨r - 1, by omega⟩
  have lx : cntP p x ≤ N := by
    by_cases z : 1 ≤ x
    · have := low x z (by omega)
      omega
    · have : x = 0 := by omega
      subst this
      exact Nat.zero_le _
  rw [cnt_succ] at h ⊢
  by_cases c : p (x + 1) = true
  · rw [if_pos c] at h ⊢
    exact ⟨c, by omega⟩
  · rw [if_neg c] at h
    omega
theorem rd_sum_at : ∀ cs R, sp_sum_at cs R → w_sum_at (endsOf cs R) (start0 4 cs) := by
  rintro _ R ⟨l, h, N, rfl, l0, lh, hz, hb, nb, hR⟩
  have B := BIG_ge
  simp -implicitDefEqProofs -dsimp [w_sum_at]
  refine ask_of (sp := sp_joint) ⟨_, _, rfl, ⟨by omega, by omega⟩, ⟨by omega, by omega⟩, ?_⟩
  (try simp -implicitDefEqProofs -dsimp)
  refine ask_of (sp := sp_common) ⟨_, _, rfl, by omega, by omega, ?_⟩
  obtain ⟨g0, g1⟩ := gcd_le (b := (h : Int)) (show 1 ≤ (l : Int) by omega)
  have jl := joint_le (show 1 ≤ (l : Int) by omega) (show 1 ≤ (h : Int) by omega)
  have jd := (joint_dvd (s := jointF (l : Int) (h : Int)) (show 1 ≤ (l : Int) by omega) (show 1 ≤ (h : Int) by omega)).mp (Int.dvd_refl _)
  have jb : jointF (l : Int) (h : Int) ≤ 10 ^ 26 := Int.le_trans jl.2 (Int.le_trans (Int.mul_le_mul (show (l : Int) ≤ 10 ^ 13 by omega) (show (h : Int) ≤ 10 ^ 13 by omega) (by omega) (by decide)) (by decide))
  have tail := tail_sums (l := (l : Int)) (h := (h : Int)) (by omega) (by omega) (by omega)
  have gj : gcdI (l : Int) (h : Int) ∣ jointF (l : Int) (h : Int) := Int.dvd_trans (gcd_dvd_l _ _) jd.1
  have cm : CMul (gcdI (l : Int) (h : Int)) ((N : Int) + 1) ∨ CMulW (gcdI (l : Int) (h : Int)) ((N : Int) + 1) := mul_big (by omega) (by omega) (by omega) (by omega)
  have gn := Int.mul_le_mul (show gcdI (l : Int) (h : Int) ≤ 10 ^ 13 by omega) (show (N : Int) + 1 ≤ 10 ^ 13 + 1 by omega) (by omega) (by decide)
  have gp := Int.mul_le_mul_of_nonneg_left (show 1 ≤ (N : Int) + 1 by omega) (show 0 ≤ gcdI (l : Int) (h : Int) by omega)
  have many : ∀ k : Nat, k ≤ cntP (sumP l h) (jointF (l : Int) (h : Int) + gcdI (l : Int) (h : Int) * (k : Int)).toNat := by
    intro k
    induction k with
    | zero => exact Nat.zero_le _
    | succ k ih =>
      have e : gcdI (l : Int) (h : Int) * ((k + 1 : Nat) : Int) = gcdI (l : Int) (h : Int) * (k : Int) + gcdI (l : Int) (h : Int) := by
        push_cast
        rw [Int.mul_add, Int.mul_one]
      have k0 := Int.mul_nonneg (show 0 ≤ gcdI (l : Int) (h : Int) by omega) (show 0 ≤ (k : Int) by omega)
      obtain ⟨x, ex⟩ : ∃ x : Nat, (jointF (l : Int) (h : Int) + gcdI (l : Int) (h : Int) * ((k + 1 : Nat) : Int)).toNat = x + 1 := ⟨(jointF (l : Int) (h : Int) + gcdI (l : Int) (h : Int) * ((k + 1 : Nat) : Int)).toNat - 1, by omega⟩
      have up := cnt_up (p := sumP l h) (show (jointF (l : Int) (h : Int) + gcdI (l : Int) (h : Int) * (k : Int)).toNat ≤ x by omega)
      have ex2 : ((x + 1 : Nat) : Int) = jointF (l : Int) (h : Int) + gcdI (l : Int) (h : Int) * ((k + 1 : Nat) : Int) := by omega
      have so : sumP l h (x + 1) = true := by
        unfold sumP
        rw [ex2]
        refine (tail.far _ (by omega)).mpr (Int.dvd_add gj (Int.dvd_mul_right ..))
      rw [ex, cnt_succ, if_pos so]
      omega
  (try simp -implicitDefEqProofs -dsimp)
  refine ⟨cm, askL_of ⟨_, fun x => decide (N < cntP (sumP l h) x.toNat), rfl, by omega, fun x x1 x2 k hk => ⟨rfl, ?_⟩, ?_, fun x y x1 xy yn hx => ?_, fun r r1 r2 hr low => ?_⟩⟩
  · (try simp -implicitDefEqProofs -dsimp)
    refine ask_of (sp := sp_count_sums) ⟨l, h, x.toNat, by simp; omega, by omega, by omega, by omega, by omega, by omega, ?_⟩
    (try simp -implicitDefEqProofs -dsimp)
    exact hk
  · have := many (N + 1)
    simp only [decide_eq_true_eq]
    push_cast at this
    omega
  · simp only [decide_eq_true_eq] at hx ⊢
    exact Nat.lt_of_lt_of_le hx (cnt_up (by omega))
  · simp only [decide_eq_true_eq, decide_eq_false_iff_not] at hr low
    obtain ⟨c1, c2⟩ := cnt_first (p := sumP l h) (N := N) (r := r.toNat) (by omega) hr fun x x1 x2 => by
      have := low (x : Int) (by omega) (by omega)
      rwa [Int.toNat_natCast] at this
    have e : ((r.toNat : Nat) : Int) = r := by omega
    have := hR r.toNat (by omega) c1 c2
    rw [e] at this
    (try simp -implicitDefEqProofs -dsimp)
    exact this
theorem rd_numbered : ∀ cs R, sp_numbered cs R → w_numbered (endsOf cs R) (start0 5 cs) := by
  rintro _ R ⟨w, N, rfl, hw, nb, h0, hR⟩
  have B := BIG_ge
  cases w with
  | non =>
    simp -implicitDefEqProofs -dsimp [w_numbered, Way.d]
    exact h0 rfl
  | steps k =>
    obtain ⟨k1, k2⟩ := hw
    obtain ⟨K, rfl⟩ : ∃ K : Nat, k = (K : Int) := ⟨k.toNat, by omega⟩
    have r0 : (K : Int) * ((N : Int) + 1) = ((K * (N + 1) : Nat) : Int) := by push_cast; rfl
    have kp : 1 ≤ K * (N + 1) := Nat.mul_pos (by omega) (by omega)
    have := hR (K * (N + 1)) kp (by
      show decide (((K * (N + 1) : Nat) : Int) % (K : Int) = 0) = true
      rw [decide_eq_true_eq]
      push_cast
      exact Int.mul_emod_right ..) (by
      have e : cntW (.steps (K : Int)) (K * (N + 1)) = K * (N + 1) / K := cnt_mult (by omega) _
      rw [e, Nat.mul_div_cancel_left _ (by omega)])
    unfold Way.d at this
    simp -implicitDefEqProofs -dsimp [w_numbered, Way.d, w_numbered_1]
    rw [r0]
    exact ⟨mul_big (by omega) (by omega) (by omega) (by omega), this⟩
  | sums l h =>
    obtain ⟨l1, lh, hz, h2⟩ := hw
    obtain ⟨L, rfl⟩ : ∃ L : Nat, l = (L : Int) := ⟨l.toNat, by omega⟩
    obtain ⟨H, rfl⟩ : ∃ H : Nat, h = (H : Int) := ⟨h.toNat, by omega⟩
    simp -implicitDefEqProofs -dsimp [w_numbered, Way.d, w_numbered_2]
    refine ask_of (sp := sp_sum_at) ⟨L, H, N, rfl, by omega, by omega, by omega, by omega, nb, fun r r1 r2 r3 => ?_⟩
    have := hR r r1 r2 r3
    unfold Way.d at this
    simp -implicitDefEqProofs -dsimp [Way.d]
    exact this
theorem rd_next_side : ∀ cs R, sp_next_side cs R → w_next_side (endsOf cs R) (start0 5 cs) := by
  rintro _ R ⟨a, b, bx, ax, m, rfl, h, hx, hw, m0, m1, h0, hR⟩
  simp -implicitDefEqProofs -dsimp [w_next_side]
  refine ask_of (sp := sp_along) ⟨a, b, bx, ax, rfl, h, hx, ?_⟩
  (try simp -implicitDefEqProofs -dsimp)
  obtain ⟨M, rfl⟩ : ∃ M, m = M + 1 := ⟨m - 1, by omega⟩
  have eM : (((M + 1 : Nat) : Int)) - 1 = (M : Int) := by omega
  rw [eM]
  have bd : WayBd (wayF a b bx ax) := by
    cases e : wayF a b bx ax with
    | non => exact True.intro
    | steps k =>
      rw [e] at hw
      exact ⟨hw.1, by have := hw.2; omega⟩
    | sums l h =>
      rw [e] at hw
      obtain ⟨w1, w2, _, w4⟩ := hw
      exact ⟨w1, by omega, by omega, by omega⟩
  have cl : cntW (wayF a b bx ax) M ≤ M := by
    have : ∀ (p : Nat → Bool) (x : Nat), cntP p x ≤ x := fun p x => by
      induction x with
      | zero => exact Nat.le_refl _
      | succ x ih =>
        rw [cnt_succ]
        split <;> omega
    exact this _ _
  refine ask_of (sp := sp_count_by) ⟨wayF a b bx ax, M, rfl, bd, by omega, ?_⟩
  (try simp -implicitDefEqProofs -dsimp)
  refine ask_of (sp := sp_numbered) ⟨wayF a b bx ax, _, rfl, hw, by omega, fun e => ?_, fun r r1 r2 r3 => ?_⟩
  · (try simp -implicitDefEqProofs -dsimp)
    exact h0 e
  · (try simp -implicitDefEqProofs -dsimp)
    have rm : M + 1 ≤ r := by
      apply Classical.byContradiction
      intro w
      have := cnt_up (p := fun s => (wayF a b bx ax).fits (s : Int)) (show r ≤ M by omega)
      unfold cntW at r3
      omega
    refine hR r rm r2 fun s s0 s1 => ?_
    cases q : (wayF a b bx ax).fits (s : Int) with
    | false => rfl
    | true =>
      obtain ⟨s', rfl⟩ : ∃ s', s = s' + 1 := ⟨s - 1, by omega⟩
      obtain ⟨r', rfl⟩ : ∃ r', r = r' + 1 := ⟨r - 1, by omega⟩
      have u1 := cnt_up (p := fun s => (wayF a b bx ax).fits (s : Int)) (show M ≤ s' by omega)
      have u2 := cnt_up (p := fun s => (wayF a b bx ax).fits (s : Int)) (show s' + 1 ≤ r' by omega)
      have c1 := cnt_succ (fun s => (wayF a b bx ax).fits (s : Int)) s'
      have c2 := cnt_succ (fun s => (wayF a b bx ax).fits (s : Int)) r'
      rw [if_pos q] at c1
      rw [if_pos r2] at c2
      unfold cntW at r3
      omega
end TW
set_option Elab.async false
set_option linter.all false
set_option maxRecDepth 100000
set_option maxHeartbeats 4000000
namespace TW
open PySem PySem.Spec PyProof.Rows L2 DL
/-- multiples of both, of the first, of the second alone, other sums, up to M -/
def sortI (a b : Int) (M : Nat) : List Int := [(M : Int) / jointF a b, (M : Int) / a - (M : Int) / jointF a b, (M : Int) / b - (M : Int) / jointF a b,
  (cntP (fun s => isSum a b (s : Int)) M : Int) - (M : Int) / a - (M : Int) / b + (M : Int) / jointF a b]
/-- a pair and greatest sides -/
structure PM (a b : List Int) (ms : List Nat) : Prop where
  la : a.length = ms.length
  lb : b.length = ms.length
  l1 : ms.length ≤ 4
  pa : ∀ x ∈ a, 1 ≤ x ∧ x ≤ 10 ^ 13
  pb : ∀ x ∈ b, 1 ≤ x ∧ x ≤ 10 ^ 13
  pm : ∀ x ∈ ms, x ≤ 10 ^ 13
def sp_sorts : DSp := fun cs R => ∃ a b, ∃ ax M : Nat, cs = [.d (prD a b), .d (.int (ax : Int)), .d (.int (M : Int))] ∧ ax < a.length ∧ ax < b.length ∧ (1 ≤ gi a ax ∧ gi a ax ≤ 10 ^ 13) ∧ (1 ≤ gi b ax ∧ gi b ax ≤ 10 ^ 13) ∧ M ≤ 10 ^ 13 ∧ R (.list (lI (sortI (gi a ax) (gi b ax) M))) cs
def behF (st so : Nat) : Nat := if st = 0 ∨ so = 0 then st + so else if st = so ∧ st ≠ 3 then st else 4
def sp_state_behind : DSp := fun cs R => ∃ st so : Nat, cs = [.d (.int (st : Int)), .d (.int (so : Int))] ∧ R (.int (behF st so : Nat)) cs
/-- as many as there are of each sort, times what follows -/
def upS (l : List Int) (f : Nat → Int) (n : Nat) : Int := ((List.range n).map fun i => if 0 < gi l i then gi l i * f i else 0).sum
/-- the ways from an axis on -/
def wayN (a b : List Int) (ms : List Nat) : Nat → Nat → Int
  | 0, st => if st = 4 then 0 else 1
  | k + 1, st => if st = 4 then 0 else upS (sortI (gi a (ms.length - (k + 1))) (gi b (ms.length - (k + 1))) (ms.getD (ms.length - (k + 1)) 0)) (fun i => wayN a b ms k (behF st i)) 4
def uptoN (a b : List Int) (ms : List Nat) (ax st M : Nat) : Int := upS (sortI (gi a ax) (gi b ax) M) (fun i => wayN a b ms (ms.length - ax - 1) (behF st i)) 4
def spN_ways_from : Nat → DSp
  | 0 => fun _ _ => False
  | n + 1 => fun cs R => ∃ a b ms, ∃ ax st : Nat, cs = [.d (prD a b), .d (.tuple (lN ms)), .d (.int (ax : Int)), .d (.int (st : Int))] ∧ PM a b ms ∧ ax ≤ ms.length ∧ ms.length - ax ≤ n ∧ st ≤ 4 ∧ R (.int (wayN a b ms (ms.length - ax) st)) cs
theorem none_ways_from : ∀ cs R, ¬ spN_ways_from 0 cs R := fun _ _ h => h
def sp_ways_from : DSp := spN_ways_from 6
def spN_upto (n : Nat) : DSp := fun cs R => ∃ a b ms, ∃ ax st M : Nat, cs = [.d (prD a b), .d (.tuple (lN ms)), .d (.int (ax : Int)), .d (.int (st : Int)), .d (.int (M : Int))] ∧ PM a b ms ∧ ax < ms.length ∧ ms.length - ax ≤ n ∧ st ≤ 3 ∧ M ≤ 10 ^ 13 ∧ R (.int (uptoN a b ms ax st M)) cs
def sp_upto : DSp := spN_upto 6
def sp_count_boxes : DSp := fun cs R => ∃ a b ms, cs = [.d (prD a b), .d (.tuple (lN ms))] ∧ PM a b ms ∧ R (.int (wayN a b ms ms.length 0)) cs
theorem ln_ways_from : ∀ (n : Nat) cs R, spN_ways_from n cs R → cs.length = 4
  | 0, _, _, h => h.elim
  | n + 1, _, _, ⟨_, _, _, _, _, e, _⟩ => by rw [e]; rfl
theorem ln_upto : ∀ (n : Nat) cs R, spN_upto n cs R → cs.length = 5 := fun n cs R ⟨_, _, _, _, _, _, e, _⟩ => by rw [e]; rfl
def w_sorts_s1 : DTS := (wRet (wOfL (wLst (wCons (wVar 5) (wCons (wOp pSubB (wVar 6) (wVar 5)) (wCons (wOp pSubB (wVar 7) (wVar 5)) (wCons (wOp pAddB (wOp pSubB (wOp pSubB (wCall [] sp_count_sums (wCons (wVar 3) (wCons (wVar 4) (wCons (wVar 2) wNil)))) (wVar 6)) (wVar 7)) (wVar 5)) wNil)))))))
@[simp ↓] theorem w_sorts_s1_ap (E : DEnds) (δ : DS) : w_sorts_s1 E δ = (wRet (wOfL (wLst (wCons (wVar 5) (wCons (wOp pSubB (wVar 6) (wVar 5)) (wCons (wOp pSubB (wVar 7) (wVar 5)) (wCons (wOp pAddB (wOp pSubB (wOp pSubB (wCall [] sp_count_sums (wCons (wVar 3) (wCons (wVar 4) (wCons (wVar 2) wNil)))) (wVar 6)) (wVar 7)) (wVar 5)) wNil))))))) E δ := rfl
def w_sorts_s2 : DTS := (wSeq (wPar3 5 6 7 (msCons (mE (wOp pDiv (wVar 2) (wCall [] sp_joint (wCons (wVar 3) (wCons (wVar 4) wNil))))) (msCons (mE (wOp pDiv (wVar 2) (wVar 3))) (msCons (mE (wOp pDiv (wVar 2) (wVar 4))) msNil)))) w_sorts_s1)
@[simp ↓] theorem w_sorts_s2_ap (E : DEnds) (δ : DS) : w_sorts_s2 E δ = (wSeq (wPar3 5 6 7 (msCons (mE (wOp pDiv (wVar 2) (wCall [] sp_joint (wCons (wVar 3) (wCons (wVar 4) wNil))))) (msCons (mE (wOp pDiv (wVar 2) (wVar 3))) (msCons (mE (wOp pDiv (wVar 2) (wVar 4))) msNil)))) w_sorts_s1) E δ := rfl
def w_sorts : DTS := (wSeq (wPar2 3 4 (msCons (mE (wOp pIx (wOp pIx (wVar 0) (wC (.int 0))) (wVar 1))) (msCons (mE (wOp pIx (wOp pIx (wVar 0) (wC (.int 1))) (wVar 1))) msNil))) w_sorts_s2)
def w_state_behind_t1 : DTS := (wRet (wIfE (wAnd (wB (wOp pEq (wVar 0) (wVar 1))) (wB (wOp pNe (wVar 0) (wC (.int 3))))) (wVar 0) (wC (.int 4))))
def w_state_behind : DTS := (wSeq (wIf (wOr (wB (wOp pEq (wVar 0) (wC (.int 0)))) (wB (wOp pEq (wVar 1) (wC (.int 0))))) (wRet (wOp pAddB (wVar 0) (wVar 1))) wNext) w_state_behind_t1)
def w_upto_1 (sp_self : DSp) : DTS := (wAug 5 pIAdd (wOp pMulT (wVar 7) (wCall [] sp_self (wCons (wVar 0) (wCons (wVar 1) (wCons (wOp pAddB (wVar 2) (wC (.int 1))) (wCons (wCall [] sp_state_behind (wCons (wVar 3) (wCons (wVar 6) wNil))) wNil)))))))
def w_upto_2 (sp_self : DSp) : DTS := (wIf (wB (wOp pGt (wVar 7) (wC (.int 0)))) (w_upto_1 sp_self) wNext)
def w_upto_s1 (sp_self : DSp) : DTS := (wSeq (wFor (iEnumD (wCons (wCall [] sp_sorts (wCons (wVar 0) (wCons (wVar 2) (wCons (wVar 4) wNil)))) wNil)) (gT (gsCons (gN 6) (gsCons (gN 7) gsNil))) (w_upto_2 sp_self)) (wRet (wVar 5)))
@[simp ↓] theorem w_upto_s1_ap (sp_self : DSp) (E : DEnds) (δ : DS) : w_upto_s1 sp_self E δ = (wSeq (wFor (iEnumD (wCons (wCall [] sp_sorts (wCons (wVar 0) (wCons (wVar 2) (wCons (wVar 4) wNil)))) wNil)) (gT (gsCons (gN 6) (gsCons (gN 7) gsNil))) (w_upto_2 sp_self)) (wRet (wVar 5))) E δ := rfl
def w_upto (sp_self : DSp) : DTS := (wSeq (wSet 5 (mE (wC (.int 0)))) (w_upto_s1 sp_self))
def w_ways_from_t1 (sp_self : DSp) : DTS := (wRet (wCall [] sp_self (wCons (wVar 0) (wCons (wVar 1) (wCons (wVar 2) (wCons (wVar 3) (wCons (wOp pIx (wVar 1) (wVar 2)) wNil)))))))
def w_ways_from_t2 (sp_self : DSp) : DTS := (wSeq (wIf (wB (wOp pEq (wVar 2) (wFn pLen (wCons (wVar 1) wNil)))) (wRet (wC (.int 1))) wNext) (w_ways_from_t1 sp_self))
def w_ways_from (sp_self : DSp) : DTS := (wSeq (wIf (wB (wOp pEq (wVar 3) (wC (.int 4)))) (wRet (wC (.int 0))) wNext) (w_ways_from_t2 sp_self))
def w_count_boxes : DTS := (wRet (wCall [] sp_ways_from (wCons (wVar 0) (wCons (wVar 1) (wCons (wC (.int 0)) (wCons (wC (.int 0)) wNil))))))
theorem ln_sorts : ∀ cs R, sp_sorts cs R → cs.length = 3 := by
  intro cs R h
  unfold sp_sorts at h
  repeat (obtain ⟨_, h⟩ := h)
  subst_vars; rfl
theorem ln_state_behind : ∀ cs R, sp_state_behind cs R → cs.length = 2 := by
  intro cs R h
  unfold sp_state_behind at h
  repeat (obtain ⟨_, h⟩ := h)
  subst_vars; rfl
theorem ln_count_boxes : ∀ cs R, sp_count_boxes cs R → cs.length = 2 := by
  intro cs R h
  unfold sp_count_boxes at h
  repeat (obtain ⟨_, h⟩ := h)
  subst_vars; rfl
end TW
set_option Elab.async false
set_option linter.all false
set_option maxRecDepth 100000
set_option maxHeartbeats 4000000
namespace TW
open PySem PySem.Spec PyProof.Rows L2 DL
theorem sort_le {a b : Int} {M : Nat} (ha : 1 ≤ a) (hb : 1 ≤ b) : ∀ i, gi (sortI a b M) i ≤ 2 * (M : Int) + 1 := fun i => by
  obtain ⟨j0, j1⟩ := joint_le ha hb
  have q1 := Int.ediv_le_self (jointF a b) (show 0 ≤ (M : Int) by omega)
  have q2 := Int.ediv_le_self a (show 0 ≤ (M : Int) by omega)
  have q3 := Int.ediv_le_self b (show 0 ≤ (M : Int) by omega)
  have n1 := Int.ediv_nonneg (show 0 ≤ (M : Int) by omega) (show 0 ≤ jointF a b by omega)
  have n2 := Int.ediv_nonneg (show 0 ≤ (M : Int) by omega) (show 0 ≤ a by omega)
  have n3 := Int.ediv_nonneg (show 0 ≤ (M : Int) by omega) (show 0 ≤ b by omega)
  have c : cntP (fun s => isSum a b (s : Int)) M ≤ M := by
    have : ∀ (p : Nat → Bool) M, cntP p M ≤ M := fun p M => by
      induction M with
      | zero => exact Nat.le_refl _
      | succ M ih => show cntP p M + (if p (M + 1) = true then 1 else 0) ≤ M + 1; split <;> omega
    exact this _ M
  unfold sortI
  match i with
  | 0 => show (M : Int) / jointF a b ≤ _; omega
  | 1 => show (M : Int) / a - (M : Int) / jointF a b ≤ _; omega
  | 2 => show (M : Int) / b - (M : Int) / jointF a b ≤ _; omega
  | 3 => show (cntP (fun s => isSum a b (s : Int)) M : Int) - (M : Int) / a - (M : Int) / b + (M : Int) / jointF a b ≤ _; omega
  | i + 4 =>
    have : gi [(M : Int) / jointF a b, (M : Int) / a - (M : Int) / jointF a b, (M : Int) / b - (M : Int) / jointF a b, (cntP (fun s => isSum a b (s : Int)) M : Int) - (M : Int) / a - (M : Int) / b + (M : Int) / jointF a b] (i + 4) = 1 := by simp [gi]
    rw [this]; omega
theorem upS_succ (l : List Int) (f : Nat → Int) (n : Nat) : upS l f (n + 1) = upS l f n + (if 0 < gi l n then gi l n * f n else 0) := by
  unfold upS
  rw [List.range_succ, List.map_append, List.sum_append]
  simp
theorem upS_bd {l : List Int} {f : Nat → Int} {X B : Int} (hX : 0 ≤ X) (hl : ∀ i, gi l i ≤ X) (hf : ∀ i, 0 ≤ f i ∧ f i ≤ B) : ∀ n : Nat, 0 ≤ upS l f n ∧ upS l f n ≤ n * (X * B)
  | 0 => by unfold upS; simp
  | n + 1 => by
    obtain ⟨h0, h1⟩ := upS_bd hX hl hf n
    obtain ⟨f0, f1⟩ := hf n
    rw [upS_succ]
    have e : ((n + 1 : Nat) : Int) * (X * B) = (n : Int) * (X * B) + X * B := by rw [Int.natCast_add, Int.add_mul]; simp
    rw [e]
    have xb := Int.mul_nonneg hX (show 0 ≤ B by omega)
    split
    · rename_i z
      have u1 := Int.mul_le_mul (hl n) f1 f0 hX
      have u2 := Int.mul_nonneg (show 0 ≤ gi l n by omega) f0
      omega
    · omega
theorem PM.at {a b : List Int} {ms : List Nat} (h : PM a b ms) {i : Nat} (hi : i < ms.length) : i < a.length ∧ i < b.length ∧ (1 ≤ gi a i ∧ gi a i ≤ 10 ^ 13) ∧ (1 ≤ gi b i ∧ gi b i ≤ 10 ^ 13) ∧ ms[i]? = some (ms.getD i 0) ∧ ms.getD i 0 ≤ 10 ^ 13 := by
  have la := h.la
  have lb := h.lb
  refine ⟨by omega, by omega, h.pa _ (gi_mem (by omega)), h.pb _ (gi_mem (by omega)), ?_, ?_⟩
  · rw [List.getD_eq_getElem?_getD, List.getElem?_eq_getElem hi]; rfl
  · rw [List.getD_eq_getElem?_getD, List.getElem?_eq_getElem hi]; exact h.pm _ (List.getElem_mem hi)
theorem way_bd {a b : List Int} {ms : List Nat} (h : PM a b ms) : ∀ (k st : Nat), k ≤ ms.length → 0 ≤ wayN a b ms k st ∧ wayN a b ms k st ≤ (10 ^ 15) ^ k
  | 0, st, _ => by
    unfold wayN
    split <;> simp
  | k + 1, st, hk => by
    obtain ⟨_, _, ia, ib, _, im⟩ := h.at (i := ms.length - (k + 1)) (by omega)
    unfold wayN
    have e : ((10 : Int) ^ 15) ^ (k + 1) = (10 ^ 15) ^ k * 10 ^ 15 := Int.pow_succ ..
    have pk : (0 : Int) ≤ (10 ^ 15) ^ k := Int.pow_nonneg (by omega)
    split
    · rw [e]; omega
    · have q := upS_bd (l := sortI (gi a (ms.length - (k + 1))) (gi b (ms.length - (k + 1))) (ms.getD (ms.length - (k + 1)) 0)) (f := fun i => wayN a b ms k (behF st i)) (X := 2 * 10 ^ 13 + 1) (B := (10 ^ 15) ^ k) (by omega) (fun i => by
        have := sort_le (M := ms.getD (ms.length - (k + 1)) 0) ia.1 ib.1 i
        omega) (fun i => way_bd h k _ (by omega)) 4
      rw [e]
      omega
theorem rd_sorts : ∀ cs R, sp_sorts cs R → w_sorts (endsOf cs R) (start0 8 cs) := by
  rintro _ R ⟨a, b, ax, M, rfl, ha, hb, ⟨a0, a1⟩, ⟨b0, b1⟩, hM, hR⟩
  have B := BIG_ge
  have qa : Pos (gi a ax) := Pos.of a0 (by omega)
  have qb : Pos (gi b ax) := Pos.of b0 (by omega)
  obtain ⟨l, hl⟩ : ∃ l : Nat, gi a ax = (l : Int) := ⟨(gi a ax).toNat, by omega⟩
  obtain ⟨h, hh⟩ : ∃ h : Nat, gi b ax = (h : Int) := ⟨(gi b ax).toNat, by omega⟩
  obtain ⟨j0, j1⟩ := joint_le a0 b0
  have j2 := Int.mul_le_mul a1 b1 (by omega) (by omega)
  unfold sortI at hR
  simp -implicitDefEqProofs -dsimp [w_sorts, gi_at ha, gi_at hb]
  refine ask_of (sp := sp_joint) ⟨_, _, rfl, qa, qb, ?_⟩
  simp -implicitDefEqProofs -dsimp [gi_at ha, gi_at hb]
  refine ⟨div_big (by omega) (by omega), div_big (by omega) (by omega), div_big (by omega) (by omega), ?_⟩
  rw [hl, hh] at hR ⊢
  refine ask_of (sp := sp_count_sums) ⟨l, h, M, rfl, by omega, by omega, by omega, by omega, by omega, ?_⟩
  simp -implicitDefEqProofs -dsimp [gi_at ha, gi_at hb, hl, hh]
  exact hR
theorem rd_state_behind : ∀ cs R, sp_state_behind cs R → w_state_behind (endsOf cs R) (start0 2 cs) := by
  rintro _ R ⟨st, so, rfl, hR⟩
  unfold behF at hR
  simp -implicitDefEqProofs -dsimp [w_state_behind]
  by_cases h1 : st = 0
  · rw [if_pos h1]
    rw [if_pos (.inl h1)] at hR
    exact hR
  rw [if_neg h1]
  by_cases h2 : so = 0
  · rw [if_pos h2]
    rw [if_pos (.inr h2)] at hR
    exact hR
  rw [if_neg h2]
  rw [if_neg (by rintro (q | q); exact h1 q; exact h2 q)] at hR
  simp -implicitDefEqProofs -dsimp [w_state_behind_t1]
  by_cases h3 : st = so
  · subst h3
    by_cases h4 : st = 3
    · subst h4
      simpa using hR
    · have h5 : ¬ (st : Int) = 3 := by omega
      rw [if_pos ⟨rfl, h4⟩] at hR
      simp -implicitDefEqProofs -dsimp [h5]
      first | exact hR | simpa [h4] using hR
  · have h5 : ¬ (st : Int) = (so : Int) := by omega
    rw [if_neg fun q => h3 q.1] at hR
    simp -implicitDefEqProofs -dsimp [h5, h3]
    exact hR
theorem rd_ways_from : ∀ (n : Nat) cs R, spN_ways_from (n + 1) cs R → w_ways_from (spN_upto n) (endsOf cs R) (start0 4 cs) := by
  rintro n _ R ⟨a, b, ms, ax, st, rfl, h, hx, hn, hs, hR⟩
  simp -implicitDefEqProofs -dsimp [w_ways_from]
  by_cases s4 : st = 4
  · subst s4
    have : wayN a b ms (ms.length - ax) 4 = 0 := by
      cases ms.length - ax <;> rfl
    rw [this] at hR
    rw [if_pos (show ((4 : Nat) : Int) = 4 from rfl)]
    exact hR
  · rw [if_neg (by omega)]
    simp -implicitDefEqProofs -dsimp [w_ways_from_t2]
    by_cases e : ax = ms.length
    · rw [if_pos (by omega)]
      have : wayN a b ms (ms.length - ax) st = 1 := by
        rw [show ms.length - ax = 0 by omega]; exact if_neg s4
      rw [this] at hR
      exact hR
    · rw [if_neg (by omega)]
      have hlt : ax < ms.length := by omega
      obtain ⟨_, _, _, _, em, im⟩ := h.at hlt
      obtain ⟨m, hm⟩ : ∃ m, ms.getD ax 0 = m := ⟨_, rfl⟩
      rw [hm] at em im
      simp -implicitDefEqProofs -dsimp [w_ways_from_t1, em]
      refine ask_of (sp := spN_upto n) ⟨a, b, ms, ax, st, m, rfl, h, hlt, hn, by omega, im, ?_⟩
      rw [← hm]
      have : wayN a b ms (ms.length - ax) st = uptoN a b ms ax st (ms.getD ax 0) := by
        obtain ⟨k, hk⟩ : ∃ k, ms.length - ax = k + 1 := ⟨ms.length - ax - 1, by omega⟩
        rw [hk]
        unfold uptoN
        rw [hk]
        show (if st = 4 then 0 else upS (sortI (gi a (ms.length - (k + 1))) (gi b (ms.length - (k + 1))) (ms.getD (ms.length - (k + 1)) 0)) (fun i => wayN a b ms k (behF st i)) 4) = _
        rw [if_neg s4, show ms.length - (k + 1) = ax by omega]
        rfl
      rw [this] at hR
      (try simp -implicitDefEqProofs -dsimp)
      exact hR
theorem beh_le {st so : Nat} (h1 : st ≤ 3) (h2 : so ≤ 3) : behF st so ≤ 4 := by
  unfold behF
  split
  · omega
  · split <;> omega
theorem rd_upto : ∀ (n : Nat) cs R, spN_upto n cs R → w_upto (spN_ways_from n) (endsOf cs R) (start0 8 cs) := by
  rintro n _ R ⟨a, b, ms, ax, st, M, rfl, h, hx, hn, hs, hM, hR⟩
  obtain ⟨n, rfl⟩ : ∃ n', n = n' + 1 := ⟨n - 1, by omega⟩
  obtain ⟨xa, xb, ia, ib, _, _⟩ := h.at hx
  have l1 := h.l1
  have B := BIG_ge
  unfold uptoN at hR
  have sl := sort_le (M := M) ia.1 ib.1
  have sn : (sortI (gi a ax) (gi b ax) M).length = 4 := rfl
  simp -implicitDefEqProofs -dsimp [w_upto]
  refine ask_of (sp := sp_sorts) ⟨a, b, ax, M, rfl, xa, xb, ia, ib, hM, ?_⟩
  revert hR sl sn
  generalize sortI (gi a ax) (gi b ax) M = S
  intro hR sl sn
  (try simp -implicitDefEqProofs -dsimp)
  rw [numbered_gi, sn]
  refine for_plain (List.range 4) _ rfl (fun rest δ => ∃ (done : Nat) (c6 c7 : Cell), done + rest.length = 4 ∧ rest = List.range' done (4 - done) ∧ δ = [.d (prD a b), .d (.tuple (lN ms)), .d (.int (ax : Int)), .d (.int (st : Int)), .d (.int (M : Int)), .d (.int (upS S (fun i => wayN a b ms (ms.length - ax - 1) (behF st i)) done)), c6, c7]) ⟨0, _, _, by simp, by simp [List.range_eq_range'], rfl⟩ ?_ ?_
  · rintro δ ⟨done, c6, c7, hd, _, rfl⟩
    have : done = 4 := by simpa using hd
    subst this
    (try simp -implicitDefEqProofs -dsimp)
    exact hR
  · rintro i rest δ ⟨done, c6, c7, hd, hr, rfl⟩ K B' T hK
    have hlt : done < 4 := by simp at hd; omega
    rw [show 4 - done = (4 - done - 1) + 1 by omega, List.range'_succ, List.cons.injEq] at hr
    obtain ⟨rfl, hr⟩ := hr
    have su := upS_succ S (fun i => wayN a b ms (ms.length - ax - 1) (behF st i)) i
    have nx : ∀ c6 c7 X, X = upS S (fun i => wayN a b ms (ms.length - ax - 1) (behF st i)) (i + 1) → K [.d (prD a b), .d (.tuple (lN ms)), .d (.int (ax : Int)), .d (.int (st : Int)), .d (.int (M : Int)), .d (.int X), c6, c7] := fun c6 c7 X hX => hK _ ⟨i + 1, c6, c7, by simp at hd; omega, by rw [hr]; congr 1, by rw [hX]⟩
    simp -implicitDefEqProofs -dsimp [w_upto_2]
    by_cases z : 0 < gi S i
    · rw [if_pos z]
      rw [if_pos z] at su
      simp -implicitDefEqProofs -dsimp [w_upto_1]
      refine ask_of (sp := sp_state_behind) ⟨st, i, rfl, ?_⟩
      (try simp -implicitDefEqProofs -dsimp)
      refine ask_of (sp := spN_ways_from (n + 1)) ⟨a, b, ms, ax + 1, behF st i, rfl, h, by omega, by omega, beh_le hs (by omega), ?_⟩
      rw [show ms.length - (ax + 1) = ms.length - ax - 1 by omega]
      obtain ⟨w0, w1⟩ := way_bd h (ms.length - ax - 1) (behF st i) (by omega)
      have w2 : ((10 : Int) ^ 15) ^ (ms.length - ax - 1) ≤ (10 ^ 15) ^ 3 := by
        have : ms.length - ax - 1 ≤ 3 := by omega
        generalize ms.length - ax - 1 = k at this
        have : k = 0 ∨ k = 1 ∨ k = 2 ∨ k = 3 := by omega
        rcases this with rfl | rfl | rfl | rfl <;> decide
      have sz := sl i
      (try simp -implicitDefEqProofs -dsimp)
      refine ⟨mul_big (by omega) (by omega) (by omega) (by omega), ?_⟩
      first | exact nx _ _ _ su.symm
    · rw [if_neg z]
      rw [if_neg z, Int.add_zero] at su
      exact nx _ _ _ su.symm
theorem rd_count_boxes : ∀ cs R, sp_count_boxes cs R → w_count_boxes (endsOf cs R) (start0 2 cs) := by
  rintro _ R ⟨a, b, ms, rfl, h, hR⟩
  have l1 := h.l1
  simp -implicitDefEqProofs -dsimp [w_count_boxes]
  refine ask_of (sp := sp_ways_from) ⟨a, b, ms, 0, 0, rfl, h, by omega, by show ms.length - 0 ≤ 5; omega, by omega, ?_⟩
  (try simp -implicitDefEqProofs -dsimp)
  exact hR
def clsF (a b : Int) (s : Int) : Nat := if a ∣ s then (if b ∣ s then 0 else 1) else if b ∣ s then 2 else if isSum a b s = true then 3 else 4
def numC (a b : Int) (c M : Nat) : Nat := cntP (fun s => decide (clsF a b (s : Int) = c)) M
theorem cnt_two_of {p q r : Nat → Bool} (h : ∀ s, 1 ≤ s → (if r s = true then 1 else 0 : Nat) = (if p s = true then 1 else 0) + (if q s = true then 1 else 0)) : ∀ M, cntP r M = cntP p M + cntP q M
  | 0 => rfl
  | M + 1 => by
    show cntP r M + (if r (M + 1) = true then 1 else 0) = cntP p M + (if p (M + 1) = true then 1 else 0) + (cntP q M + (if q (M + 1) = true then 1 else 0))
    rw [cnt_two_of h M, h (M + 1) (by omega)]; omega
theorem ind_dec (P : Prop) [Decidable P] : (if decide P = true then 1 else 0 : Nat) = if P then 1 else 0 := by
  by_cases h : P <;> simp [h]
theorem num_dvd {l h : Nat} (hl : 0 < l) (hh : 0 < h) (M : Nat) :
    ((M / l : Nat) : Int) = numC l h 0 M + numC l h 1 M ∧ ((M / h : Nat) : Int) = numC l h 0 M + numC l h 2 M ∧ (M : Int) / jointF l h = numC l h 0 M ∧
    (cntP (fun s => isSum (l : Int) (h : Int) (s : Int)) M : Int) = numC l h 0 M + numC l h 1 M + numC l h 2 M + numC l h 3 M := by
  have dvd : ∀ (k s : Nat), decide ((s : Int) % (k : Int) = 0) = decide ((k : Int) ∣ (s : Int)) := fun k s => by
    rw [decide_eq_decide]; exact (Int.dvd_iff_emod_eq_zero).symm
  have e1 : M / l = numC l h 0 M + numC l h 1 M := by
    rw [← cnt_mult hl M]
    refine cnt_two_of (fun s _ => ?_) M
    rw [dvd, ind_dec, ind_dec, ind_dec]
    unfold clsF
    by_cases c1 : (l : Int) ∣ (s : Int) <;> by_cases c2 : (h : Int) ∣ (s : Int) <;> simp [c1, c2]
    split <;> simp
  have e2 : M / h = numC l h 0 M + numC l h 2 M := by
    rw [← cnt_mult hh M]
    refine cnt_two_of (fun s _ => ?_) M
    rw [dvd, ind_dec, ind_dec, ind_dec]
    unfold clsF
    by_cases c1 : (l : Int) ∣ (s : Int) <;> by_cases c2 : (h : Int) ∣ (s : Int) <;> simp [c1, c2]
    split <;> simp
  obtain ⟨j0, _⟩ := joint_le (show (1 : Int) ≤ (l : Int) by omega) (show (1 : Int) ≤ (h : Int) by omega)
  obtain ⟨j, hj⟩ : ∃ j : Nat, jointF (l : Int) (h : Int) = (j : Int) := ⟨(jointF (l : Int) (h : Int)).toNat, by omega⟩
  have e3 : M / j = numC l h 0 M := by
    rw [← cnt_mult (by omega) M]
    refine cnt_congr fun s _ _ => ?_
    rw [dvd, decide_eq_decide, ← hj, joint_dvd (by omega) (by omega)]
    unfold clsF
    by_cases c1 : (l : Int) ∣ (s : Int) <;> by_cases c2 : (h : Int) ∣ (s : Int) <;> simp [c1, c2]
    split <;> simp
  have e4 : cntP (fun s => isSum (l : Int) (h : Int) (s : Int)) M = numC l h 0 M + numC l h 1 M + (numC l h 2 M + numC l h 3 M) := by
    have f1 : ∀ M, cntP (fun s => decide (clsF l h (s : Int) ≤ 1)) M = numC l h 0 M + numC l h 1 M := cnt_two_of fun s _ => by
      rw [ind_dec, ind_dec, ind_dec]
      generalize clsF (l : Int) (h : Int) (s : Int) = k
      split <;> split <;> split <;> omega
    have f2 : ∀ M, cntP (fun s => decide (clsF l h (s : Int) = 2 ∨ clsF l h (s : Int) = 3)) M = numC l h 2 M + numC l h 3 M := cnt_two_of fun s _ => by
      rw [ind_dec, ind_dec, ind_dec]
      generalize clsF (l : Int) (h : Int) (s : Int) = k
      split <;> split <;> split <;> omega
    rw [← f1, ← f2]
    refine cnt_two_of (fun s hs => ?_) M
    rw [ind_dec, ind_dec]
    have a1 : (l : Int) ∣ (s : Int) → isSum (l : Int) (h : Int) (s : Int) = true := isSum_l (by omega) (by omega) (by omega)
    have a2 : (h : Int) ∣ (s : Int) → isSum (l : Int) (h : Int) (s : Int) = true := isSum_r (by omega) (by omega) (by omega)
    unfold clsF
    by_cases c1 : (l : Int) ∣ (s : Int)
    · by_cases c2 : (h : Int) ∣ (s : Int) <;> simp [c1, c2, a1 c1]
    · by_cases c2 : (h : Int) ∣ (s : Int)
      · simp [c1, c2, a2 c2]
      · by_cases c3 : isSum (l : Int) (h : Int) (s : Int) = true <;> simp [c1, c2, c3]
  refine ⟨by rw [e1]; push_cast; rfl, by rw [e2]; push_cast; rfl, ?_, by rw [e4]; push_cast; omega⟩
  rw [hj, ← e3]; push_cast; rfl
theorem sort_cls {l h : Nat} (hl : 0 < l) (hh : 0 < h) (M : Nat) : sortI (l : Int) (h : Int) M = [(numC l h 0 M : Int), (numC l h 1 M : Int), (numC l h 2 M : Int), (numC l h 3 M : Int)] := by
  obtain ⟨e1, e2, e3, e4⟩ := num_dvd hl hh M
  have q1 : (M : Int) / (l : Int) = ((M / l : Nat) : Int) := by push_cast; rfl
  have q2 : (M : Int) / (h : Int) = ((M / h : Nat) : Int) := by push_cast; rfl
  unfold sortI
  rw [q1, q2, e1, e2, e3, e4]
  simp only [List.cons.injEq, and_true, true_and]
  omega
theorem beh4 (x : Nat) : behF 4 x = 4 := by
  unfold behF
  by_cases h : x = 0
  · subst h; rfl
  · rw [if_neg (by rintro (q | q); cases q; exact h q)]
    split <;> rfl
theorem beh_4 (st : Nat) : behF st 4 = 4 := by
  unfold behF
  by_cases h : st = 0
  · subst h; rfl
  · rw [if_neg (by rintro (q | q); exact h q; cases q)]
    split
    · rename_i z; exact z.1
    · rfl
theorem way_4 (a b : List Int) (ms : List Nat) (k : Nat) : wayN a b ms k 4 = 0 := by cases k <;> rfl
theorem cls_le (a b s : Int) : clsF a b s ≤ 4 := by
  unfold clsF
  split
  · split <;> omega
  · split
    · omega
    · split <;> omega
/-- side by side, each in its class -/
def sumI (f : Nat → Int) : Nat → Int
  | 0 => 0
  | n + 1 => sumI f n + f n
theorem sum_cls {l h : Nat} (hl : 0 < l) (hh : 0 < h) (f : Nat → Int) (f4 : f 4 = 0) (M : Nat) : sumI (fun i => f (clsF (l : Int) (h : Int) ((i + 1 : Nat) : Int))) M = upS (sortI (l : Int) (h : Int) M) f 4 := by
  have up : ∀ A B C D : Nat, upS [(A : Int), (B : Int), (C : Int), (D : Int)] f 4 = A * f 0 + B * f 1 + C * f 2 + D * f 3 := fun A B C D => by
    have one : ∀ (X : Nat) (y : Int), (if 0 < (X : Int) then (X : Int) * y else 0) = X * y := fun X y => by
      by_cases z : X = 0
      · subst z; simp
      · rw [if_pos (by omega)]
    rw [upS_succ, upS_succ, upS_succ, upS_succ]
    show 0 + (if 0 < (A : Int) then (A : Int) * f 0 else 0) + (if 0 < (B : Int) then (B : Int) * f 1 else 0) + (if 0 < (C : Int) then (C : Int) * f 2 else 0) + (if 0 < (D : Int) then (D : Int) * f 3 else 0) = _
    rw [one, one, one, one]; omega
  rw [sort_cls hl hh, up]
  induction M with
  | zero => show 0 = ((0 : Nat) : Int) * f 0 + ((0 : Nat) : Int) * f 1 + ((0 : Nat) : Int) * f 2 + ((0 : Nat) : Int) * f 3; simp
  | succ M ih =>
    show sumI _ M + f (clsF (l : Int) (h : Int) ((M + 1 : Nat) : Int)) = _
    rw [ih]
    have st : ∀ c, (numC l h c (M + 1) : Int) = numC l h c M + if clsF (l : Int) (h : Int) ((M + 1 : Nat) : Int) = c then 1 else 0 := fun c => by
      show ((numC l h c M + (if decide (clsF (l : Int) (h : Int) ((M + 1 : Nat) : Int) = c) = true then 1 else 0) : Nat) : Int) = _
      rw [ind_dec]
      by_cases z : clsF (l : Int) (h : Int) ((M + 1 : Nat) : Int) = c
      · rw [if_pos z, if_pos z]; rfl
      · rw [if_neg z, if_neg z]; rfl
    rw [st 0, st 1, st 2, st 3]
    have le := cls_le (l : Int) (h : Int) ((M + 1 : Nat) : Int)
    generalize clsF (l : Int) (h : Int) ((M + 1 : Nat) : Int) = c at le
    have : c = 0 ∨ c = 1 ∨ c = 2 ∨ c = 3 ∨ c = 4 := by omega
    rcases this with rfl | rfl | rfl | rfl | rfl
    · simp only [if_true, Int.add_mul, Int.one_mul]; simp; omega
    · simp only [if_true, Int.add_mul, Int.one_mul]; simp; omega
    · simp only [if_true, Int.add_mul, Int.one_mul]; simp; omega
    · simp only [if_true, Int.add_mul, Int.one_mul]; simp; omega
    · simp [f4]
/-- where a box leads, axis by axis -/
def stF (a b bx : List Int) : Nat → Nat
  | 0 => 0
  | n + 1 => behF (stF a b bx n) (clsF (gi a n) (gi b n) (gi bx n))
def nCl (a b bx : List Int) (c : Nat) : Nat → Nat
  | 0 => 0
  | n + 1 => nCl a b bx c n + if clsF (gi a n) (gi b n) (gi bx n) = c then 1 else 0
theorem st_num (a b bx : List Int) : ∀ n, stF a b bx n ≤ 4 ∧
    (stF a b bx n = 0 ↔ nCl a b bx 1 n = 0 ∧ nCl a b bx 2 n = 0 ∧ nCl a b bx 3 n = 0 ∧ nCl a b bx 4 n = 0) ∧
    (stF a b bx n = 1 ↔ 0 < nCl a b bx 1 n ∧ nCl a b bx 2 n = 0 ∧ nCl a b bx 3 n = 0 ∧ nCl a b bx 4 n = 0) ∧
    (stF a b bx n = 2 ↔ nCl a b bx 1 n = 0 ∧ 0 < nCl a b bx 2 n ∧ nCl a b bx 3 n = 0 ∧ nCl a b bx 4 n = 0) ∧
    (stF a b bx n = 3 ↔ nCl a b bx 1 n = 0 ∧ nCl a b bx 2 n = 0 ∧ nCl a b bx 3 n = 1 ∧ nCl a b bx 4 n = 0)
  | 0 => by simp [stF, nCl]
  | n + 1 => by
    obtain ⟨h0, h1, h2, h3, h4⟩ := st_num a b bx n
    have le := cls_le (gi a n) (gi b n) (gi bx n)
    unfold stF nCl behF
    generalize clsF (gi a n) (gi b n) (gi bx n) = c at le ⊢
    generalize stF a b bx n = s at h0 h1 h2 h3 h4 ⊢
    generalize nCl a b bx 1 n = n1 at h0 h1 h2 h3 h4 ⊢
    generalize nCl a b bx 2 n = n2 at h0 h1 h2 h3 h4 ⊢
    generalize nCl a b bx 3 n = n3 at h0 h1 h2 h3 h4 ⊢
    generalize nCl a b bx 4 n = n4 at h0 h1 h2 h3 h4 ⊢
    have hc : c = 0 ∨ c = 1 ∨ c = 2 ∨ c = 3 ∨ c = 4 := by omega
    have hs : s = 0 ∨ s = 1 ∨ s = 2 ∨ s = 3 ∨ s = 4 := by omega
    rcases hc with rfl | rfl | rfl | rfl | rfl <;> rcases hs with rfl | rfl | rfl | rfl | rfl <;> simp at h1 h2 h3 h4 ⊢ <;> omega
end TW
set_option Elab.async false
set_option linter.all false
set_option maxRecDepth 100000
set_option maxHeartbeats 4000000
namespace TW
open PySem PySem.Spec PyProof.Rows L2 DL
def sp_sort_of : DSp := fun cs R => ∃ a b, ∃ ax s : Nat, cs = [.d (prD a b), .d (.int (ax : Int)), .d (.int (s : Int))] ∧ ax < a.length ∧ ax < b.length ∧ (1 ≤ gi a ax ∧ gi a ax ≤ 10 ^ 13) ∧ (1 ≤ gi b ax ∧ gi b ax ≤ 10 ^ 13) ∧ s ≤ 10 ^ 13 ∧ R (.int (clsF (gi a ax) (gi b ax) (s : Int) : Nat)) cs
def sp_side_at : DSp := fun cs R => ∃ a b bx ax, ∃ N : Nat, cs = [.d (prD a b), .d (tI bx), .d (.int (ax : Nat)), .d (.int (N : Int))] ∧ PB a b bx ∧ ax < bx.length ∧ WaySm (wayF a b bx ax) ∧ N ≤ 10 ^ 13 ∧ (wayF a b bx ax = .non → R .none cs) ∧
  ∀ r : Nat, 1 ≤ r → (wayF a b bx ax).fits (r : Int) = true → cntW (wayF a b bx ax) r = N + 1 → R (.int (r : Int)) cs
def sp_side_number : DSp := fun cs R => ∃ a b bx ax, ∃ s : Nat, cs = [.d (prD a b), .d (tI bx), .d (.int (ax : Nat)), .d (.int ((s + 1 : Nat) : Int))] ∧ PB a b bx ∧ ax < bx.length ∧ WayBd (wayF a b bx ax) ∧ s + 1 ≤ 10 ^ 29 ∧
  R (if (wayF a b bx ax).fits ((s + 1 : Nat) : Int) = true then .int (cntW (wayF a b bx ax) s : Nat) else .none) cs
/-- a box among those below a greatest one that are filled -/
structure BoxV (a b : List Int) (ms : List Nat) (bx : List Int) : Prop where
  len : bx.length = ms.length
  at1 : ∀ i, i < ms.length → 1 ≤ gi bx i ∧ gi bx i ≤ (ms.getD i 0 : Nat)
  st : stF a b bx ms.length ≠ 4
/-- its number: those before it, axis by axis -/
def rkF (a b : List Int) (ms : List Nat) (bx : List Int) : Nat → Int
  | 0 => 0
  | n + 1 => rkF a b ms bx n + uptoN a b ms n (stF a b bx n) (gi bx n - 1).toNat
def sp_box_at : DSp := fun cs R => ∃ a b ms, ∃ N : Int, cs = [.d (prD a b), .d (.tuple (lN ms)), .d (.int N)] ∧ PM a b ms ∧ (∀ x ∈ ms, 1 ≤ x) ∧ 0 ≤ N ∧ N < wayN a b ms ms.length 0 ∧ ∀ bx, BoxV a b ms bx → rkF a b ms bx ms.length = N → R (tI bx) cs
def sp_box_number : DSp := fun cs R => ∃ a b ms bx, cs = [.d (prD a b), .d (.tuple (lN ms)), .d (tI bx)] ∧ PM a b ms ∧ bx.length = ms.length ∧ (∀ x ∈ bx, 1 ≤ x ∧ x ≤ 10 ^ 13) ∧ (BoxV a b ms bx → R (.int (rkF a b ms bx ms.length)) cs) ∧ (¬ BoxV a b ms bx → R .none cs)
def w_sort_of_1 : DTS := (wRet (wOp pAddB (wOp pMulT (wFn pInt (wCons (wOp pNe (wOp pMod (wVar 2) (wVar 3)) (wC (.int 0))) wNil)) (wC (.int 2))) (wFn pInt (wCons (wOp pNe (wOp pMod (wVar 2) (wVar 4)) (wC (.int 0))) wNil))))
def w_sort_of_t1 : DTS := (wRet (wIfE (wB (wCall [] sp_is_sum (wCons (wVar 3) (wCons (wVar 4) (wCons (wVar 2) wNil))))) (wC (.int 3)) (wC (.int 4))))
def w_sort_of_s1 : DTS := (wSeq (wIf (wOr (wB (wOp pEq (wOp pMod (wVar 2) (wVar 3)) (wC (.int 0)))) (wB (wOp pEq (wOp pMod (wVar 2) (wVar 4)) (wC (.int 0))))) w_sort_of_1 wNext) w_sort_of_t1)
@[simp ↓] theorem w_sort_of_s1_ap (E : DEnds) (δ : DS) : w_sort_of_s1 E δ = (wSeq (wIf (wOr (wB (wOp pEq (wOp pMod (wVar 2) (wVar 3)) (wC (.int 0)))) (wB (wOp pEq (wOp pMod (wVar 2) (wVar 4)) (wC (.int 0))))) w_sort_of_1 wNext) w_sort_of_t1) E δ := rfl
def w_sort_of : DTS := (wSeq (wPar2 3 4 (msCons (mE (wOp pIx (wOp pIx (wVar 0) (wC (.int 0))) (wVar 1))) (msCons (mE (wOp pIx (wOp pIx (wVar 0) (wC (.int 1))) (wVar 1))) msNil))) w_sort_of_s1)
def w_box_at_s1 : DTS := (wAsgG (wTup (wCons (wOp pAddB (wVar 3) (wTup (wCons (wVar 7) wNil))) (wCons (wCall [] sp_state_behind (wCons (wVar 4) (wCons (wCall [] sp_sort_of (wCons (wVar 0) (wCons (wVar 5) (wCons (wVar 7) wNil)))) wNil))) wNil))) (gT (gsCons (gN 3) (gsCons (gN 4) gsNil))))
@[simp ↓] theorem w_box_at_s1_ap (E : DEnds) (δ : DS) : w_box_at_s1 E δ = (wAsgG (wTup (wCons (wOp pAddB (wVar 3) (wTup (wCons (wVar 7) wNil))) (wCons (wCall [] sp_state_behind (wCons (wVar 4) (wCons (wCall [] sp_sort_of (wCons (wVar 0) (wCons (wVar 5) (wCons (wVar 7) wNil)))) wNil))) wNil))) (gT (gsCons (gN 3) (gsCons (gN 4) gsNil)))) E δ := rfl
def w_box_at_s2 : DTS := (wSeq (wAug 2 pISub (wCall [] sp_upto (wCons (wVar 0) (wCons (wVar 1) (wCons (wVar 5) (wCons (wVar 4) (wCons (wOp pSubB (wVar 7) (wC (.int 1))) wNil))))))) w_box_at_s1)
@[simp ↓] theorem w_box_at_s2_ap (E : DEnds) (δ : DS) : w_box_at_s2 E δ = (wSeq (wAug 2 pISub (wCall [] sp_upto (wCons (wVar 0) (wCons (wVar 1) (wCons (wVar 5) (wCons (wVar 4) (wCons (wOp pSubB (wVar 7) (wC (.int 1))) wNil))))))) w_box_at_s1) E δ := rfl
def w_box_at_1 : DTS := (wSeq (wSet 7 (mE (wLam [2, 0, 1, 5, 4] 6 1 (wOp pGt (wCall [] sp_upto (wCons (wVar 2) (wCons (wVar 3) (wCons (wVar 4) (wCons (wVar 5) (wCons (wVar 0) wNil)))))) (wVar 1)) sp_least_with (wCons (wVar 6) wNil)))) w_box_at_s2)
def w_box_at_s3 : DTS := (wSeq (wFor (iEnumD (wCons (wVar 1) wNil)) (gT (gsCons (gN 5) (gsCons (gN 6) gsNil))) w_box_at_1) (wRet (wVar 3)))
@[simp ↓] theorem w_box_at_s3_ap (E : DEnds) (δ : DS) : w_box_at_s3 E δ = (wSeq (wFor (iEnumD (wCons (wVar 1) wNil)) (gT (gsCons (gN 5) (gsCons (gN 6) gsNil))) w_box_at_1) (wRet (wVar 3))) E δ := rfl
def w_box_at_t1 : DTS := (wSeq (wAsgG (wTup (wCons (wTup wNil) (wCons (wC (.int 0)) wNil))) (gT (gsCons (gN 3) (gsCons (gN 4) gsNil)))) w_box_at_s3)
def w_box_at : DTS := (wSeq (wIf (wNot (wB (wCall [] sp_is_integer (wCons (wVar 2) (wCons (wC (.int 0)) (wCons (wOp pSubB (wCall [] sp_count_boxes (wCons (wVar 0) (wCons (wVar 1) wNil))) (wC (.int 1))) wNil)))))) wNever wNext) w_box_at_t1)
def w_side_at : DTS := (wRet (wCall [] sp_numbered (wCons (wCall [] sp_along (wCons (wVar 0) (wCons (wVar 1) (wCons (wVar 2) wNil)))) (wCons (wVar 3) wNil))))
def w_side_number_s1 : DTS := (wRet (wIfE (wB (wOp pGt (wCall [] sp_count_by (wCons (wVar 4) (wCons (wVar 3) wNil))) (wVar 5))) (wVar 5) (wC .none)))
@[simp ↓] theorem w_side_number_s1_ap (E : DEnds) (δ : DS) : w_side_number_s1 E δ = (wRet (wIfE (wB (wOp pGt (wCall [] sp_count_by (wCons (wVar 4) (wCons (wVar 3) wNil))) (wVar 5))) (wVar 5) (wC .none))) E δ := rfl
def w_side_number_s2 : DTS := (wSeq (wSet 5 (mE (wCall [] sp_count_by (wCons (wVar 4) (wCons (wOp pSubB (wVar 3) (wC (.int 1))) wNil))))) w_side_number_s1)
@[simp ↓] theorem w_side_number_s2_ap (E : DEnds) (δ : DS) : w_side_number_s2 E δ = (wSeq (wSet 5 (mE (wCall [] sp_count_by (wCons (wVar 4) (wCons (wOp pSubB (wVar 3) (wC (.int 1))) wNil))))) w_side_number_s1) E δ := rfl
def w_side_number : DTS := (wSeq (wSet 4 (mE (wCall [] sp_along (wCons (wVar 0) (wCons (wVar 1) (wCons (wVar 2) wNil)))))) w_side_number_s2)
def w_box_number_s1 : DTS := (wSet 4 (mE (wCall [] sp_state_behind (wCons (wVar 4) (wCons (wCall [] sp_sort_of (wCons (wVar 0) (wCons (wVar 5) (wCons (wVar 6) wNil)))) wNil)))))
@[simp ↓] theorem w_box_number_s1_ap (E : DEnds) (δ : DS) : w_box_number_s1 E δ = (wSet 4 (mE (wCall [] sp_state_behind (wCons (wVar 4) (wCons (wCall [] sp_sort_of (wCons (wVar 0) (wCons (wVar 5) (wCons (wVar 6) wNil)))) wNil))))) E δ := rfl
def w_box_number_t1 : DTS := (wSeq (wAug 3 pIAdd (wCall [] sp_upto (wCons (wVar 0) (wCons (wVar 1) (wCons (wVar 5) (wCons (wVar 4) (wCons (wOp pSubB (wVar 6) (wC (.int 1))) wNil))))))) w_box_number_s1)
def w_box_number_2 : DTS := (wSeq (wIf (wOr (wB (wOp pGt (wVar 6) (wOp pIx (wVar 1) (wVar 5)))) (wB (wOp pEq (wVar 4) (wC (.int 4))))) (wRet (wC .none)) wNext) w_box_number_t1)
def w_box_number_t2 : DTS := (wRet (wIfE (wB (wOp pNe (wVar 4) (wC (.int 4)))) (wVar 3) (wC .none)))
def w_box_number_s2 : DTS := (wSeq (wFor (iEnumD (wCons (wVar 2) wNil)) (gT (gsCons (gN 5) (gsCons (gN 6) gsNil))) w_box_number_2) w_box_number_t2)
@[simp ↓] theorem w_box_number_s2_ap (E : DEnds) (δ : DS) : w_box_number_s2 E δ = (wSeq (wFor (iEnumD (wCons (wVar 2) wNil)) (gT (gsCons (gN 5) (gsCons (gN 6) gsNil))) w_box_number_2) w_box_number_t2) E δ := rfl
def w_box_number : DTS := (wSeq (wPar2 3 4 (msCons (mE (wC (.int 0))) (msCons (mE (wC (.int 0))) msNil))) w_box_number_s2)
theorem ln_sort_of : ∀ cs R, sp_sort_of cs R → cs.length = 3 := by
  intro cs R h
  unfold sp_sort_of at h
  repeat (obtain ⟨_, h⟩ := h)
  subst_vars; rfl
theorem ln_box_at : ∀ cs R, sp_box_at cs R → cs.length = 3 := by
  intro cs R h
  unfold sp_box_at at h
  repeat (obtain ⟨_, h⟩ := h)
  subst_vars; rfl
theorem ln_side_at : ∀ cs R, sp_side_at cs R → cs.length = 4 := by
  intro cs R h
  unfold sp_side_at at h
  repeat (obtain ⟨_, h⟩ := h)
  subst_vars; rfl
theorem ln_side_number : ∀ cs R, sp_side_number cs R → cs.length = 4 := by
  intro cs R h
  unfold sp_side_number at h
  repeat (obtain ⟨_, h⟩ := h)
  subst_vars; rfl
theorem ln_box_number : ∀ cs R, sp_box_number cs R → cs.length = 3 := by
  intro cs R h
  unfold sp_box_number at h
  repeat (obtain ⟨_, h⟩ := h)
  subst_vars; rfl
end TW
set_option Elab.async false
set_option linter.all false
set_option maxRecDepth 100000
set_option maxHeartbeats 4000000
namespace TW
open PySem PySem.Spec PyProof.Rows L2 DL
theorem upto_sum {a b : List Int} {ms : List Nat} (h : PM a b ms) {ax : Nat} (hx : ax < ms.length) (st M : Nat) : uptoN a b ms ax st M = sumI (fun i => wayN a b ms (ms.length - ax - 1) (behF st (clsF (gi a ax) (gi b ax) ((i + 1 : Nat) : Int)))) M := by
  obtain ⟨_, _, ia, ib, _, _⟩ := h.at hx
  obtain ⟨l, hl⟩ : ∃ l : Nat, gi a ax = (l : Int) := ⟨(gi a ax).toNat, by omega⟩
  obtain ⟨k, hk⟩ : ∃ k : Nat, gi b ax = (k : Int) := ⟨(gi b ax).toNat, by omega⟩
  unfold uptoN
  rw [hl, hk]
  exact (sum_cls (by omega) (by omega) (fun i => wayN a b ms (ms.length - ax - 1) (behF st i)) (by show wayN _ _ _ _ (behF st 4) = 0; rw [beh_4, way_4]) M).symm
section
variable {a b : List Int} {ms : List Nat} (h : PM a b ms) {ax : Nat} (hx : ax < ms.length)
include h hx
theorem upto_zero (st : Nat) : uptoN a b ms ax st 0 = 0 := by rw [upto_sum h hx]; rfl
theorem upto_succ (st M : Nat) : uptoN a b ms ax st (M + 1) = uptoN a b ms ax st M + wayN a b ms (ms.length - ax - 1) (behF st (clsF (gi a ax) (gi b ax) ((M + 1 : Nat) : Int))) := by
  rw [upto_sum h hx, upto_sum h hx]
  rfl
theorem upto_up (st : Nat) {M M' : Nat} (hm : M ≤ M') : uptoN a b ms ax st M ≤ uptoN a b ms ax st M' := by
  obtain ⟨d, rfl⟩ := Nat.exists_eq_add_of_le hm
  clear hm
  induction d with
  | zero => exact Int.le_refl _
  | succ d ih =>
    have := upto_succ h hx st (M + d)
    have w := way_bd h (ms.length - ax - 1) (behF st (clsF (gi a ax) (gi b ax) ((M + d + 1 : Nat) : Int))) (by omega)
    rw [show M + (d + 1) = M + d + 1 by omega, this]
    omega
theorem way_upto {st : Nat} (s4 : st ≠ 4) : wayN a b ms (ms.length - ax) st = uptoN a b ms ax st (ms.getD ax 0) := by
  obtain ⟨k, hk⟩ : ∃ k, ms.length - ax = k + 1 := ⟨ms.length - ax - 1, by omega⟩
  unfold uptoN
  rw [hk]
  show (if st = 4 then 0 else upS (sortI (gi a (ms.length - (k + 1))) (gi b (ms.length - (k + 1))) (ms.getD (ms.length - (k + 1)) 0)) (fun i => wayN a b ms k (behF st i)) 4) = _
  rw [if_neg s4, show ms.length - (k + 1) = ax by omega]
  rfl
end
theorem st_congr {a b bx bx' : List Int} : ∀ {n}, (∀ j, j < n → gi bx j = gi bx' j) → stF a b bx n = stF a b bx' n
  | 0, _ => rfl
  | n + 1, h => by
    show behF _ _ = behF _ _
    rw [st_congr fun j hj => h j (by omega), h n (by omega)]
theorem rk_congr {a b : List Int} {ms : List Nat} {bx bx' : List Int} : ∀ {n}, (∀ j, j < n → gi bx j = gi bx' j) → rkF a b ms bx n = rkF a b ms bx' n
  | 0, _ => rfl
  | n + 1, h => by
    show rkF _ _ _ _ _ + _ = rkF _ _ _ _ _ + _
    rw [rk_congr fun j hj => h j (by omega), h n (by omega), st_congr fun j hj => h j (by omega)]
theorem st_live {a b bx : List Int} {n i : Nat} (hi : i ≤ n) (h : stF a b bx n ≠ 4) : stF a b bx i ≠ 4 := by
  obtain ⟨d, rfl⟩ := Nat.exists_eq_add_of_le hi
  clear hi
  induction d with
  | zero => exact h
  | succ d ih =>
    refine ih fun q => h ?_
    show behF (stF a b bx (i + d)) _ = 4
    rw [q, beh4]
theorem rk_tail {a b : List Int} {ms : List Nat} {bx : List Int} (h : PM a b ms) (v : BoxV a b ms bx) : ∀ k i, i + k = ms.length → 0 ≤ rkF a b ms bx ms.length - rkF a b ms bx i ∧ rkF a b ms bx ms.length - rkF a b ms bx i < wayN a b ms k (stF a b bx i)
  | 0, i, e => by
    rw [Nat.add_zero] at e
    subst e
    have : wayN a b ms 0 (stF a b bx ms.length) = 1 := if_neg v.st
    omega
  | k + 1, i, e => by
    obtain ⟨h0, h1⟩ := rk_tail h v k (i + 1) (by omega)
    have hx : i < ms.length := by omega
    have s4 := st_live (show i ≤ ms.length by omega) v.st
    obtain ⟨x0, x1⟩ := v.at1 i hx
    obtain ⟨s, es⟩ : ∃ s : Nat, gi bx i = ((s + 1 : Nat) : Int) := ⟨(gi bx i - 1).toNat, by omega⟩
    have er : rkF a b ms bx (i + 1) = rkF a b ms bx i + uptoN a b ms i (stF a b bx i) s := by
      show _ + uptoN a b ms i (stF a b bx i) (gi bx i - 1).toNat = _
      rw [es, show (((s + 1 : Nat) : Int) - 1).toNat = s by omega]
    have eS : stF a b bx (i + 1) = behF (stF a b bx i) (clsF (gi a i) (gi b i) ((s + 1 : Nat) : Int)) := by
      show behF _ _ = _
      rw [es]
    have su := upto_succ h hx (stF a b bx i) s
    have up := upto_up h hx (stF a b bx i) (show s + 1 ≤ ms.getD i 0 by omega)
    have u0 := upto_up h hx (stF a b bx i) (show 0 ≤ s by omega)
    rw [upto_zero h hx] at u0
    have w := way_upto h hx s4
    rw [show ms.length - i = k + 1 by omega] at w
    rw [show ms.length - i - 1 = k by omega, ← eS] at su
    omega
theorem rk_inj {a b : List Int} {ms : List Nat} {bx bx' : List Int} (h : PM a b ms) (v : BoxV a b ms bx) (v' : BoxV a b ms bx') (e : rkF a b ms bx ms.length = rkF a b ms bx' ms.length) : bx = bx' := by
  have less : ∀ {x y : List Int}, BoxV a b ms x → BoxV a b ms y → ∀ i, i < ms.length → (∀ j, j < i → gi x j = gi y j) → gi x i < gi y i → rkF a b ms x ms.length < rkF a b ms y ms.length := fun {x y} vx vy i hi eq lt => by
    obtain ⟨_, h1⟩ := rk_tail h vx (ms.length - (i + 1)) (i + 1) (by omega)
    obtain ⟨h2, _⟩ := rk_tail h vy (ms.length - (i + 1)) (i + 1) (by omega)
    obtain ⟨x0, _⟩ := vx.at1 i hi
    obtain ⟨s, es⟩ : ∃ s : Nat, gi x i = ((s + 1 : Nat) : Int) := ⟨(gi x i - 1).toNat, by omega⟩
    have ex : rkF a b ms x (i + 1) = rkF a b ms x i + uptoN a b ms i (stF a b x i) s := by
      show _ + uptoN a b ms i (stF a b x i) (gi x i - 1).toNat = _
      rw [es, show (((s + 1 : Nat) : Int) - 1).toNat = s by omega]
    have eS : stF a b x (i + 1) = behF (stF a b x i) (clsF (gi a i) (gi b i) ((s + 1 : Nat) : Int)) := by
      show behF _ _ = _
      rw [es]
    have ey : rkF a b ms y (i + 1) = rkF a b ms x i + uptoN a b ms i (stF a b x i) (gi y i - 1).toNat := by
      show rkF a b ms y i + _ = _
      rw [rk_congr eq, st_congr eq]
    have su := upto_succ h hi (stF a b x i) s
    rw [show ms.length - i - 1 = ms.length - (i + 1) by omega, ← eS] at su
    have up := upto_up h hi (stF a b x i) (show s + 1 ≤ (gi y i - 1).toNat by omega)
    omega
  have all : ∀ i, i ≤ ms.length → ∀ j, j < i → gi bx j = gi bx' j := fun i => by
    induction i with
    | zero => intro _ j hj; omega
    | succ i ih =>
      intro hi j hj
      have pre := ih (by omega)
      by_cases c : j < i
      · exact pre j c
      · obtain rfl : j = i := by omega
        by_cases l1 : gi bx j < gi bx' j
        · have := less v v' j (by omega) pre l1; omega
        · by_cases l2 : gi bx' j < gi bx j
          · have := less v' v j (by omega) (fun k hk => (pre k hk).symm) l2; omega
          · omega
  exact gi_ext (v.len.trans v'.len.symm) fun i hi => all ms.length (Nat.le_refl _) i (by rw [← v.len]; exact hi)
theorem sm_bd {w : Way} (h : WaySm w) : WayBd w := by
  cases w with
  | non => exact True.intro
  | steps k =>
    obtain ⟨h1, h2⟩ := h
    exact ⟨h1, by omega⟩
  | sums l h' =>
    obtain ⟨h1, h2, _, h4⟩ := h
    exact ⟨h1, by omega, by omega, by omega⟩
theorem gi_sn_l {as : List Int} {x : Int} {i : Nat} (h : i < as.length) : gi (as ++ [x]) i = gi as i := by unfold gi; rw [List.getElem?_append_left h]
theorem gi_sn_e {as : List Int} {x : Int} {i : Nat} (h : i = as.length) : gi (as ++ [x]) i = x := by subst h; unfold gi; simp
theorem rd_side_at : ∀ cs R, sp_side_at cs R → w_side_at (endsOf cs R) (start0 4 cs) := by
  rintro _ R ⟨a, b, bx, ax, N, rfl, h, hx, sm, hN, h0, hR⟩
  simp -implicitDefEqProofs -dsimp [w_side_at]
  refine ask_of (sp := sp_along) ⟨a, b, bx, ax, rfl, h, hx, ?_⟩
  (try simp -implicitDefEqProofs -dsimp)
  refine ask_of (sp := sp_numbered) ⟨wayF a b bx ax, N, rfl, sm, hN, fun e => ?_, fun r r1 r2 r3 => ?_⟩
  · (try simp -implicitDefEqProofs -dsimp)
    exact h0 e
  · (try simp -implicitDefEqProofs -dsimp)
    exact hR r r1 r2 r3
theorem cntW_succ (w : Way) (s : Nat) : cntW w (s + 1) = cntW w s + if w.fits ((s + 1 : Nat) : Int) = true then 1 else 0 := rfl
theorem rd_side_number : ∀ cs R, sp_side_number cs R → w_side_number (endsOf cs R) (start0 6 cs) := by
  rintro _ R ⟨a, b, bx, ax, s, rfl, h, hx, bd, hs, hR⟩
  simp -implicitDefEqProofs -dsimp [w_side_number]
  refine ask_of (sp := sp_along) ⟨a, b, bx, ax, rfl, h, hx, ?_⟩
  have e1 : ((s + 1 : Nat) : Int) - 1 = (s : Int) := by omega
  have c1 := cntW_succ (wayF a b bx ax) s
  simp -implicitDefEqProofs -dsimp [e1]
  refine ask_of (sp := sp_count_by) ⟨wayF a b bx ax, s, rfl, bd, by omega, ?_⟩
  (try simp -implicitDefEqProofs -dsimp)
  refine ask_of (sp := sp_count_by) ⟨wayF a b bx ax, s + 1, rfl, bd, by omega, ?_⟩
  (try simp -implicitDefEqProofs -dsimp)
  by_cases c : (wayF a b bx ax).fits ((s + 1 : Nat) : Int) = true
  · rw [if_pos c] at c1 hR
    rw [if_pos (by omega)]
    exact hR
  · rw [if_neg c] at c1 hR
    rw [if_neg (by omega)]
    exact hR
theorem rd_sort_of : ∀ cs R, sp_sort_of cs R → w_sort_of (endsOf cs R) (start0 5 cs) := by
  rintro _ R ⟨a, b, ax, s, rfl, ha, hb, ⟨a0, a1⟩, ⟨b0, b1⟩, hs, hR⟩
  have B := BIG_ge
  have da : (gi a ax ∣ (s : Int)) ↔ (s : Int) % gi a ax = 0 := Int.dvd_iff_emod_eq_zero
  have db : (gi b ax ∣ (s : Int)) ↔ (s : Int) % gi b ax = 0 := Int.dvd_iff_emod_eq_zero
  simp -implicitDefEqProofs -dsimp [w_sort_of, gi_at ha, gi_at hb]
  by_cases c1 : gi a ax ∣ (s : Int)
  · have d1 := da.mp c1
    by_cases c2 : gi b ax ∣ (s : Int)
    · have d2 := db.mp c2
      have e : clsF (gi a ax) (gi b ax) (s : Int) = 0 := by unfold clsF; rw [if_pos c1, if_pos c2]
      rw [e] at hR
      simp -implicitDefEqProofs -dsimp [d1, d2, w_sort_of_s1, w_sort_of_1]
      exact ⟨by omega, cm_l (by omega), by omega, hR⟩
    · have d2 : ¬ (s : Int) % gi b ax = 0 := fun z => c2 (db.mpr z)
      have e : clsF (gi a ax) (gi b ax) (s : Int) = 1 := by unfold clsF; rw [if_pos c1, if_neg c2]
      rw [e] at hR
      simp -implicitDefEqProofs -dsimp [d1, d2, w_sort_of_s1, w_sort_of_1]
      exact ⟨by omega, cm_l (by omega), by omega, hR⟩
  · have d1 : ¬ (s : Int) % gi a ax = 0 := fun z => c1 (da.mpr z)
    by_cases c2 : gi b ax ∣ (s : Int)
    · have d2 := db.mp c2
      have e : clsF (gi a ax) (gi b ax) (s : Int) = 2 := by unfold clsF; rw [if_neg c1, if_pos c2]
      rw [e] at hR
      simp -implicitDefEqProofs -dsimp [d1, d2, w_sort_of_s1, w_sort_of_1]
      exact ⟨by omega, by omega, by omega, cm_l (by omega), by omega, hR⟩
    · have d2 : ¬ (s : Int) % gi b ax = 0 := fun z => c2 (db.mpr z)
      have e : clsF (gi a ax) (gi b ax) (s : Int) = if isSum (gi a ax) (gi b ax) (s : Int) = true then 3 else 4 := by unfold clsF; rw [if_neg c1, if_neg c2]
      rw [e] at hR
      simp -implicitDefEqProofs -dsimp [d1, d2, w_sort_of_s1, w_sort_of_t1]
      refine ⟨by omega, by omega, ask_of (sp := sp_is_sum) ⟨_, _, _, rfl, Pos.of a0 (by omega), Pos.of b0 (by omega), by omega, by omega, ?_⟩⟩
      by_cases c3 : isSum (gi a ax) (gi b ax) (s : Int) = true
      · rw [if_pos c3] at hR
        simp -implicitDefEqProofs -dsimp [c3]
        exact hR
      · rw [if_neg c3] at hR
        simp -implicitDefEqProofs -dsimp [c3]
        exact hR
theorem rd_box_number : ∀ cs R, sp_box_number cs R → w_box_number (endsOf cs R) (start0 7 cs) := by
  rintro _ R ⟨a, b, ms, bx, rfl, h, hl, hx, hR, hN⟩
  have l1 := h.l1
  simp -implicitDefEqProofs -dsimp [w_box_number]
  refine for_enumz bx (fun x => .int x) _ rfl (fun i δ => ∃ c5 c6, δ = [.d (prD a b), .d (.tuple (lN ms)), .d (tI bx), .d (.int (rkF a b ms bx i)), .d (.int (stF a b bx i : Nat)), c5, c6] ∧ ∀ j, j < i → gi bx j ≤ (ms.getD j 0 : Nat)) (fun x δ => x = .none ∧ ¬ BoxV a b ms bx ∧ ∃ c3 c4 c5 c6, δ = [.d (prD a b), .d (.tuple (lN ms)), .d (tI bx), c3, c4, c5, c6]) ⟨_, _, rfl, fun j hj => by omega⟩ (by
    rintro _ δ ⟨rfl, nv, c3, c4, c5, c6, rfl⟩
    (try simp -implicitDefEqProofs -dsimp)
    exact hN nv) ?_ ?_
  · rintro δ ⟨c5, c6, rfl, le⟩
    rw [hl] at le
    simp -implicitDefEqProofs -dsimp [w_box_number_t2]
    rw [hl]
    by_cases c : stF a b bx ms.length = 4
    · rw [if_pos (by omega)]
      exact hN fun v => v.st c
    · rw [if_neg (by omega)]
      exact hR ⟨hl, fun i hi => ⟨(hx _ (gi_mem (by omega))).1, le i hi⟩, c⟩
  · rintro i hi x δ hx' ⟨c5, c6, rfl, le⟩ K B T hK hZ
    have hi' : i < ms.length := by omega
    obtain ⟨xa, xb, ia, ib, em, im⟩ := h.at hi'
    have gx : gi bx i = x := by
      have := gi_at hi
      rw [List.getElem?_eq_getElem hi, hx'] at this
      exact (Option.some.inj this).symm
    have bd := hx x (by rw [← gx]; exact gi_mem hi)
    obtain ⟨m, hm⟩ : ∃ m, ms.getD i 0 = m := ⟨_, rfl⟩
    rw [hm] at em im
    simp -implicitDefEqProofs -dsimp [w_box_number_2, em]
    by_cases c1 : (m : Int) < x
    · rw [if_pos c1]
      refine hZ _ _ ⟨rfl, fun v => ?_, _, _, _, _, rfl⟩
      have := (v.at1 i hi').2
      rw [hm, gx] at this
      omega
    · rw [if_neg c1]
      by_cases c2 : stF a b bx i = 4
      · rw [if_pos (by omega)]
        exact hZ _ _ ⟨rfl, fun v => st_live (by omega) v.st c2, _, _, _, _, rfl⟩
      · rw [if_neg (by omega)]
        have s4 := (st_num a b bx i).1
        obtain ⟨s, rfl⟩ : ∃ s : Nat, x = ((s + 1 : Nat) : Int) := ⟨(x - 1).toNat, by omega⟩
        have e1 : ((s + 1 : Nat) : Int) - 1 = (s : Int) := by omega
        simp -implicitDefEqProofs -dsimp [w_box_number_t1, e1]
        refine ask_of (sp := sp_upto) ⟨a, b, ms, i, stF a b bx i, s, rfl, h, hi', by omega, by omega, by omega, ?_⟩
        simp -implicitDefEqProofs -dsimp [w_box_number_s1]
        refine ask_of (sp := sp_sort_of) ⟨a, b, i, s + 1, rfl, xa, xb, ia, ib, by omega, ?_⟩
        (try simp -implicitDefEqProofs -dsimp)
        refine ask_of (sp := sp_state_behind) ⟨stF a b bx i, clsF (gi a i) (gi b i) ((s + 1 : Nat) : Int), rfl, ?_⟩
        (try simp -implicitDefEqProofs -dsimp)
        have e2 : rkF a b ms bx (i + 1) = rkF a b ms bx i + uptoN a b ms i (stF a b bx i) s := by
          show _ + uptoN a b ms i (stF a b bx i) (gi bx i - 1).toNat = _
          rw [gx, e1, Int.toNat_natCast]
        have e3 : stF a b bx (i + 1) = behF (stF a b bx i) (clsF (gi a i) (gi b i) ((s : Int) + 1)) := by
          show behF _ _ = _
          rw [gx]
          rfl
        rw [← e2, ← e3]
        exact hK _ ⟨_, _, rfl, fun j hj => by
          by_cases q : j < i
          · exact le j q
          · obtain rfl : j = i := by omega
            rw [hm, gx]
            omega⟩
theorem rd_box_at : ∀ cs R, sp_box_at cs R → w_box_at (endsOf cs R) (start0 8 cs) := by
  rintro _ R ⟨a, b, ms, N, rfl, h, m1, N0, N1, hR⟩
  have l1 := h.l1
  obtain ⟨W, eW⟩ : ∃ W, wayN a b ms ms.length 0 = W := ⟨_, rfl⟩
  simp -implicitDefEqProofs -dsimp [w_box_at]
  refine ask_of (sp := sp_count_boxes) ⟨a, b, ms, rfl, h, ?_⟩
  rw [eW] at N1 ⊢
  (try simp -implicitDefEqProofs -dsimp)
  refine ask_of (sp := sp_is_integer) ⟨_, _, _, rfl, ?_⟩
  have ew : wholeB 0 (W - 1) (.int N) = true := by
    simp only [wholeB, Bool.and_eq_true, decide_eq_true_eq]
    omega
  rw [ew]
  simp -implicitDefEqProofs -dsimp [w_box_at_t1, w_box_at_s3]
  refine for_enumd ms (fun (x : Nat) => .int (x : Int)) _ rfl (fun i δ => ∃ (r : Int) (fs : List Int) (st : Nat) (c5 c6 c7 : Cell), δ = [.d (prD a b), .d (.tuple (lN ms)), .d (.int r), .d (tI fs), .d (.int (st : Int)), c5, c6, c7] ∧ fs.length = i ∧ i ≤ ms.length ∧ (∀ j, j < i → 1 ≤ gi fs j ∧ gi fs j ≤ (ms.getD j 0 : Nat)) ∧ st = stF a b fs i ∧ r + rkF a b ms fs i = N ∧ 0 ≤ r ∧ r < wayN a b ms (ms.length - i) st)
    ⟨N, [], 0, _, _, _, rfl, rfl, by omega, fun j hj => by omega, rfl, by show N + 0 = N; omega, N0, by rw [Nat.sub_zero, eW]; exact N1⟩ ?_ ?_
  · rintro δ ⟨r, fs, st, c5, c6, c7, rfl, fl, _, fb, rfl, hr, r0, r1⟩
    (try simp -implicitDefEqProofs -dsimp)
    rw [Nat.sub_self] at r1
    have s4 : stF a b fs ms.length ≠ 4 := fun z => by
      rw [z, way_4] at r1
      omega
    have : wayN a b ms 0 (stF a b fs ms.length) = 1 := if_neg s4
    exact hR fs ⟨fl, fb, s4⟩ (by omega)
  · rintro i hi x δ hx ⟨r, fs, st, c5, c6, c7, rfl, fl, _, fb, hst, hr, r0, r1⟩ K B T hK
    obtain ⟨xa, xb, ia, ib, em, im⟩ := h.at hi
    have ex : ms.getD i 0 = x := by
      rw [List.getD_eq_getElem?_getD, List.getElem?_eq_getElem hi, hx]
      rfl
    rw [ex] at em im
    have x1 := m1 x (by rw [← hx]; exact List.getElem_mem hi)
    have s4 : st ≠ 4 := fun z => by
      rw [z, way_4] at r1
      omega
    have s3 : st ≤ 3 := by
      have := (st_num a b fs i).1
      omega
    have wu := way_upto h hi s4
    rw [ex] at wu
    rw [wu] at r1
    simp -implicitDefEqProofs -dsimp [w_box_at_1]
    refine askL_of ⟨x, fun y => decide (r < uptoN a b ms i st y.toNat), rfl, by omega, fun y y1 y2 k hk => ⟨rfl, ?_⟩, ?_, fun y z y1 yz zn hy => ?_, fun y y1 y2 hy low => ?_⟩
    · (try simp -implicitDefEqProofs -dsimp)
      refine ask_of (sp := sp_upto) ⟨a, b, ms, i, st, y.toNat, by simp; omega, h, hi, by omega, s3, by omega, ?_⟩
      (try simp -implicitDefEqProofs -dsimp)
      exact hk
    · simp only [decide_eq_true_eq, Int.toNat_natCast]
      exact r1
    · simp only [decide_eq_true_eq] at hy ⊢
      exact Int.lt_of_lt_of_le hy (upto_up h hi st (by omega))
    · simp only [decide_eq_true_eq, decide_eq_false_iff_not] at hy low
      obtain ⟨s, rfl⟩ : ∃ s : Nat, y = ((s + 1 : Nat) : Int) := ⟨(y - 1).toNat, by omega⟩
      rw [Int.toNat_natCast] at hy
      have e1 : ((s + 1 : Nat) : Int) - 1 = (s : Int) := by omega
      have lo : uptoN a b ms i st s ≤ r := by
        by_cases z : s = 0
        · subst z
          rw [upto_zero h hi]
          exact r0
        · have := low (s : Int) (by omega) (by omega)
          rw [Int.toNat_natCast] at this
          omega
      have su := upto_succ h hi st s
      simp -implicitDefEqProofs -dsimp [w_box_at_s2, e1]
      refine ask_of (sp := sp_upto) ⟨a, b, ms, i, st, s, rfl, h, hi, by omega, s3, by omega, ?_⟩
      simp -implicitDefEqProofs -dsimp [w_box_at_s1]
      refine ⟨by omega, ask_of (sp := sp_sort_of) ⟨a, b, i, s + 1, rfl, xa, xb, ia, ib, by omega, ?_⟩⟩
      (try simp -implicitDefEqProofs -dsimp)
      refine ask_of (sp := sp_state_behind) ⟨st, clsF (gi a i) (gi b i) ((s + 1 : Nat) : Int), rfl, ?_⟩
      (try simp -implicitDefEqProofs -dsimp)
      obtain ⟨y, ey⟩ : ∃ y : Int, (s : Int) + 1 = y := ⟨_, rfl⟩
      have ey2 : ((s + 1 : Nat) : Int) = y := ey
      rw [ey2] at su
      rw [ey]
      have eg : gi (fs ++ [y]) i = y := gi_sn_e fl.symm
      have ep : ∀ j, j < i → gi (fs ++ [y]) j = gi fs j := fun j hj => gi_sn_l (by omega)
      have et : PyData.tuple (lI fs ++ [PyData.int y]) = tI (fs ++ [y]) := by simp [tI, lI]
      have e3 : stF a b (fs ++ [y]) (i + 1) = behF st (clsF (gi a i) (gi b i) y) := by
        show behF _ _ = _
        rw [eg, st_congr ep, hst]
      have e2 : rkF a b ms (fs ++ [y]) (i + 1) = rkF a b ms fs i + uptoN a b ms i st s := by
        show rkF a b ms (fs ++ [y]) i + uptoN a b ms i (stF a b (fs ++ [y]) i) (gi (fs ++ [y]) i - 1).toNat = _
        rw [eg, st_congr ep, rk_congr ep, ← hst, show (y - 1).toNat = s by omega]
      have le : ∀ j, j < i + 1 → 1 ≤ gi (fs ++ [y]) j ∧ gi (fs ++ [y]) j ≤ (ms.getD j 0 : Nat) := fun j hj => by
        by_cases q : j < i
        · rw [ep j q]
          exact fb j q
        · obtain rfl : j = i := by omega
          rw [eg, ex]
          omega
      rw [et]
      rw [show ms.length - i - 1 = ms.length - (i + 1) by omega] at su
      exact hK _ ⟨_, _, _, _, _, _, rfl, by simp; omega, by omega, le, e3.symm, by rw [e2]; omega, by omega, by omega⟩
end TW
set_option Elab.async false
set_option linter.all false
set_option maxRecDepth 100000
set_option maxHeartbeats 4000000
namespace TW
open PySem PySem.Spec PyProof.Rows L2 DL
abbrev Quad := Nat → Nat
def quadF (a b : Int) (M : Nat) : Quad := fun c => numC a b c M
/-- each axis gives its class, the last state counts -/
def wq : List Quad → Nat → Int
  | [], st => if st = 4 then 0 else 1
  | q :: qs, st => (q 0 : Int) * wq qs (behF st 0) + (q 1 : Int) * wq qs (behF st 1) + (q 2 : Int) * wq qs (behF st 2) + (q 3 : Int) * wq qs (behF st 3)
theorem wq_4 : ∀ qs, wq qs 4 = 0
  | [] => rfl
  | q :: qs => by
    unfold wq
    rw [beh4, beh4, beh4, beh4, wq_4 qs]
    simp
/-- the axes' counts of a pair below greatest sides -/
def quads (a b : List Int) (ms : List Nat) : List Quad := (List.range ms.length).map fun i => quadF (gi a i) (gi b i) (ms.getD i 0)
theorem quads_drop {a b : List Int} {ms : List Nat} {i : Nat} (hi : i < ms.length) : (quads a b ms).drop i = quadF (gi a i) (gi b i) (ms.getD i 0) :: (quads a b ms).drop (i + 1) := by
  have l : i < (quads a b ms).length := by unfold quads; simpa using hi
  rw [List.drop_eq_getElem_cons l]
  congr 1
  simp only [quads, List.getElem_map, List.getElem_range]
theorem up_quad {l h : Nat} (hl : 0 < l) (hh : 0 < h) (f : Nat → Int) (M : Nat) : upS (sortI (l : Int) (h : Int) M) f 4 = (numC l h 0 M : Int) * f 0 + (numC l h 1 M : Int) * f 1 + (numC l h 2 M : Int) * f 2 + (numC l h 3 M : Int) * f 3 := by
  have one : ∀ (X : Nat) (y : Int), (if 0 < (X : Int) then (X : Int) * y else 0) = X * y := fun X y => by
    by_cases z : X = 0
    · subst z; simp
    · rw [if_pos (by omega)]
  have up : ∀ A B C D : Nat, upS [(A : Int), (B : Int), (C : Int), (D : Int)] f 4 = A * f 0 + B * f 1 + C * f 2 + D * f 3 := fun A B C D => by
    rw [upS_succ, upS_succ, upS_succ, upS_succ]
    show 0 + (if 0 < (A : Int) then (A : Int) * f 0 else 0) + (if 0 < (B : Int) then (B : Int) * f 1 else 0) + (if 0 < (C : Int) then (C : Int) * f 2 else 0) + (if 0 < (D : Int) then (D : Int) * f 3 else 0) = _
    rw [one, one, one, one]
    omega
  rw [sort_cls hl hh, up]
theorem way_quads {a b : List Int} {ms : List Nat} (h : PM a b ms) : ∀ k st, k ≤ ms.length → wayN a b ms k st = wq ((quads a b ms).drop (ms.length - k)) st
  | 0, st, _ => by
    have : (quads a b ms).drop (ms.length - 0) = [] := List.drop_eq_nil_iff.mpr (by unfold quads; simp)
    rw [this]
    rfl
  | k + 1, st, hk => by
    by_cases s4 : st = 4
    · subst s4
      rw [way_4, wq_4]
    · have hx : ms.length - (k + 1) < ms.length := by omega
      obtain ⟨_, _, ia, ib, _, _⟩ := h.at hx
      have ih := fun st => way_quads h k st (by omega)
      rw [quads_drop hx, show ms.length - (k + 1) + 1 = ms.length - k by omega]
      show (if st = 4 then 0 else upS (sortI (gi a (ms.length - (k + 1))) (gi b (ms.length - (k + 1))) (ms.getD (ms.length - (k + 1)) 0)) (fun i => wayN a b ms k (behF st i)) 4) = _
      rw [if_neg s4]
      unfold wq
      rw [← ih, ← ih, ← ih, ← ih]
      obtain ⟨l, hl⟩ : ∃ l : Nat, gi a (ms.length - (k + 1)) = (l : Int) := ⟨(gi a (ms.length - (k + 1))).toNat, by omega⟩
      obtain ⟨m, hm⟩ : ∃ m : Nat, gi b (ms.length - (k + 1)) = (m : Int) := ⟨(gi b (ms.length - (k + 1))).toNat, by omega⟩
      unfold quadF
      rw [hl, hm]
      exact up_quad (by omega) (by omega) _ _
theorem way_all {a b : List Int} {ms : List Nat} (h : PM a b ms) : wayN a b ms ms.length 0 = wq (quads a b ms) 0 := by
  rw [way_quads h _ _ (Nat.le_refl _), Nat.sub_self, List.drop_zero]
def swF (c : Nat) : Nat := if c = 1 then 2 else if c = 2 then 1 else c
theorem cls_swap {a b s : Int} (ha : 1 ≤ a) (hb : 1 ≤ b) : clsF b a s = swF (clsF a b s) := by
  have e : isSum b a s = isSum a b s := by
    rw [Bool.eq_iff_iff, isSum_iff hb ha, isSum_iff ha hb]
    exact ⟨fun ⟨x, y, p, q, r⟩ => ⟨y, x, q, p, by omega⟩, fun ⟨x, y, p, q, r⟩ => ⟨y, x, q, p, by omega⟩⟩
  unfold clsF swF
  rw [e]
  by_cases c1 : a ∣ s <;> by_cases c2 : b ∣ s <;> by_cases c3 : isSum a b s = true <;> simp [c1, c2, c3]
theorem beh_swap {st c : Nat} (h1 : st ≤ 4) (h2 : c ≤ 4) : behF (swF st) (swF c) = swF (behF st c) := by
  have s : st = 0 ∨ st = 1 ∨ st = 2 ∨ st = 3 ∨ st = 4 := by omega
  have c' : c = 0 ∨ c = 1 ∨ c = 2 ∨ c = 3 ∨ c = 4 := by omega
  rcases s with rfl | rfl | rfl | rfl | rfl <;> rcases c' with rfl | rfl | rfl | rfl | rfl <;> decide
theorem sw_4 {c : Nat} : swF c = 4 ↔ c = 4 := by
  unfold swF
  split
  · omega
  · split <;> omega
theorem PM.swap {a b : List Int} {ms : List Nat} (h : PM a b ms) : PM b a ms := ⟨h.lb, h.la, h.l1, h.pb, h.pa, h.pm⟩
theorem st_swap {a b bx : List Int} : ∀ {n}, (∀ i, i < n → 1 ≤ gi a i ∧ 1 ≤ gi b i) → stF b a bx n = swF (stF a b bx n)
  | 0, _ => rfl
  | n + 1, h => by
    show behF _ _ = swF (behF _ _)
    obtain ⟨h1, h2⟩ := h n (by omega)
    rw [st_swap fun i hi => h i (by omega), cls_swap h1 h2, beh_swap (st_num a b bx n).1 (cls_le _ _ _)]
theorem BoxV.swap {a b : List Int} {ms : List Nat} {bx : List Int} (h : PM a b ms) (v : BoxV a b ms bx) : BoxV b a ms bx := ⟨v.len, v.at1, fun z => v.st (by
  rw [st_swap fun i hi => ⟨(h.at hi).2.2.1.1, (h.at hi).2.2.2.1.1⟩] at z
  exact sw_4.mp z)⟩
theorem cnt_times {p q : Nat → Bool} {t : Nat} (ht : 1 ≤ t) (h1 : ∀ s, ¬ t ∣ s → p s = false) (h2 : ∀ u, 1 ≤ u → p (t * u) = q u) : ∀ n, cntP p n = cntP q (n / t)
  | 0 => by rw [Nat.zero_div]; rfl
  | n + 1 => by
    have sd : (n + 1) / t = n / t + if t ∣ n + 1 then 1 else 0 := Nat.succ_div
    rw [cnt_succ, cnt_times ht h1 h2 n, sd]
    by_cases d : t ∣ n + 1
    · rw [if_pos d] at sd
      rw [if_pos d, cnt_succ]
      obtain ⟨u, hu⟩ := d
      have u1 : 1 ≤ u := by
        cases u with
        | zero => rw [Nat.mul_zero] at hu; omega
        | succ u => omega
      have e : n / t + 1 = u := by
        rw [hu, Nat.mul_div_cancel_left _ (by omega)] at sd
        omega
      rw [e, hu, h2 u u1]
    · rw [h1 _ d, if_neg d]
      simp
end TW
set_option Elab.async false
set_option linter.all false
set_option maxRecDepth 100000
set_option maxHeartbeats 4000000
namespace TW
open PySem PySem.Spec PyProof.Rows L2 DL
end TW
set_option Elab.async false
set_option linter.all false
set_option maxRecDepth 100000
set_option maxHeartbeats 4000000
namespace TW
open PySem PySem.Spec PyProof.Rows L2 DL
/-- a pair of n axes, sides up to m -/
structure Pq (n : Nat) (m : Int) (p q : List Int) : Prop where
  lp : p.length = n
  lq : q.length = n
  n0 : 0 < n
  n1 : n ≤ 4
  pp : ∀ x ∈ p, 1 ≤ x ∧ x ≤ m
  pq : ∀ x ∈ q, 1 ≤ x ∧ x ≤ m
/-- a box of n axes that is filled -/
structure Bo (n : Nat) (p q bx : List Int) : Prop where
  l : bx.length = n
  b : ∀ x ∈ bx, 1 ≤ x ∧ x ≤ 10 ^ 13
  f : Fill p q bx
/-- the sides in another order -/
def turnF (os : List Nat) (x : List Int) : List Int := os.map (gi x)
end TW
set_option Elab.async false
set_option linter.all false
set_option maxRecDepth 100000
set_option maxHeartbeats 4000000
namespace TW
open PySem PySem.Spec PyProof.Rows L2 DL
end TW
set_option Elab.async false
set_option linter.all false
set_option maxRecDepth 100000
set_option maxHeartbeats 4000000
namespace TW
open PySem PySem.Spec PyProof.Rows L2 DL
theorem fill_more {a b bx : List Int} {f g m : Int} (la : a.length = bx.length) (lb : b.length = bx.length) (df : f ∣ m) (dg : g ∣ m) : Fill (a ++ [f]) (b ++ [g]) (bx ++ [m]) ↔ Fill a b bx := by
  have e : ∀ {c : List Int} {f : Int}, c.length = bx.length → f ∣ m → ((∀ i, i < (bx ++ [m]).length → gi (c ++ [f]) i ∣ gi (bx ++ [m]) i) ↔ ∀ i, i < bx.length → gi c i ∣ gi bx i) := fun {c f} lc df => by
    constructor
    · intro h i hi
      have := h i (by simp; omega)
      rwa [gi_sn_l (by omega), gi_sn_l hi] at this
    · intro h i hi
      by_cases q : i < bx.length
      · rw [gi_sn_l (by omega), gi_sn_l q]; exact h i q
      · have q : i = bx.length := by simp at hi; omega
        rw [gi_sn_e (by omega), gi_sn_e q]; exact df
  unfold Fill
  rw [e la df, e lb dg]
  constructor
  · rintro (h | h | ⟨k, hk, h1, h2⟩)
    · exact .inl h
    · exact .inr (.inl h)
    · have h1' : ∀ i, i < bx.length → i ≠ k → gi a i ∣ gi bx i ∧ gi b i ∣ gi bx i := fun i hi hne => by
        have := h1 i (by simp; omega) hne
        rwa [gi_sn_l (by omega), gi_sn_l (by omega), gi_sn_l (by omega)] at this
      by_cases q : k < bx.length
      · rw [gi_sn_l (by omega), gi_sn_l (by omega), gi_sn_l q] at h2
        exact .inr (.inr ⟨k, q, h1', h2⟩)
      · exact .inl fun i hi => (h1' i hi (by omega)).1
  · rintro (h | h | ⟨k, hk, h1, h2⟩)
    · exact .inl h
    · exact .inr (.inl h)
    · refine .inr (.inr ⟨k, by simp; omega, fun i hi hne => ?_, ?_⟩)
      · by_cases q : i < bx.length
        · rw [gi_sn_l (by omega), gi_sn_l q, gi_sn_l (by omega)]; exact h1 i q hne
        · have q : i = bx.length := by simp at hi; omega
          rw [gi_sn_e (by omega), gi_sn_e q, gi_sn_e (by omega)]
          exact ⟨df, dg⟩
      · rw [gi_sn_l (by omega), gi_sn_l (by omega), gi_sn_l hk]; exact h2
def WayV : Way → Prop
  | .non => True
  | .steps k => 1 ≤ k
  | .sums l h => 1 ≤ l ∧ l < h ∧ h % l ≠ 0
theorem wayV {a b bx : List Int} {ax : Nat} (h : PB a b bx) (hx : ax < bx.length) : WayV (wayF a b bx ax) := by
  obtain ⟨_, _, _, qa, qb, _⟩ := h.at hx
  have ga := qa.1
  have gb := qb.1
  have jl := joint_le ga gb
  unfold wayF
  split
  · split
    · unfold sumsW
      split
      · show 1 ≤ min (gi a ax) (gi b ax)
        omega
      · rename_i z
        have ne : max (gi a ax) (gi b ax) ≠ min (gi a ax) (gi b ax) := fun e => z (by rw [e]; exact Int.emod_self)
        exact ⟨by omega, by omega, z⟩
    · exact ga
  · split
    · exact gb
    · split
      · exact jl.1
      · exact True.intro
theorem fit_steps {k s : Int} : (Way.steps k).fits s = true ↔ k ∣ s := by
  show decide (s % k = 0) = true ↔ _
  rw [decide_eq_true_eq]
  exact Int.dvd_iff_emod_eq_zero.symm
theorem fit_sums {l h s : Int} (hl : 1 ≤ l) (hh : 1 ≤ h) : (Way.sums l h).fits s = true ↔ ∃ x y : Int, 0 ≤ x ∧ 0 ≤ y ∧ l * x + h * y = s := isSum_iff hl hh
theorem nn_of {l x : Int} (hl : 1 ≤ l) (h : 1 ≤ l * x) : 1 ≤ x := by
  apply Classical.byContradiction
  intro w
  have := Int.mul_le_mul_of_nonneg_left (show x ≤ 0 by omega) (show 0 ≤ l by omega)
  omega
theorem least_sums {l h s : Int} (hl : 1 ≤ l) (hh : l < h) (hs : 1 ≤ s) (f : (Way.sums l h).fits s = true) : l ≤ s ∧ (¬ l ∣ s → h ≤ s) := by
  obtain ⟨x, y, x0, y0, e⟩ := (fit_sums hl (by omega)).mp f
  have a1 := Int.mul_nonneg (show 0 ≤ l by omega) x0
  have a2 := Int.mul_nonneg (show 0 ≤ h by omega) y0
  by_cases c : y = 0
  · subst c
    rw [Int.mul_zero, Int.add_zero] at e
    have := nn_of hl (show 1 ≤ l * x by omega)
    have := Int.mul_le_mul_of_nonneg_left this (show 0 ≤ l by omega)
    exact ⟨by omega, fun n => absurd ⟨x, e.symm⟩ n⟩
  · have := Int.mul_le_mul_of_nonneg_left (show 1 ≤ y by omega) (show 0 ≤ h by omega)
    exact ⟨by omega, fun _ => by omega⟩
theorem sums_lh {l h : Int} (hl : 1 ≤ l) (hh : 1 ≤ h) : (Way.sums l h).fits l = true ∧ (Way.sums l h).fits h = true := ⟨(fit_sums hl hh).mpr ⟨1, 0, by omega, by omega, by omega⟩, (fit_sums hl hh).mpr ⟨0, 1, by omega, by omega, by omega⟩⟩
theorem way_ext {w w' : Way} (v : WayV w) (v' : WayV w') (h : ∀ s : Int, 1 ≤ s → w.fits s = w'.fits s) : w = w' := by
  have nonS : ∀ {k : Int}, 1 ≤ k → (∀ s : Int, 1 ≤ s → Way.non.fits s = (Way.steps k).fits s) → False := fun {k} k1 h => by
    have := h k k1
    rw [fit_steps.mpr (Int.dvd_refl k)] at this
    cases this
  have nonM : ∀ {l k : Int}, 1 ≤ l → l < k → (∀ s : Int, 1 ≤ s → Way.non.fits s = (Way.sums l k).fits s) → False := fun {l k} l1 lk h => by
    have := h l l1
    rw [(sums_lh l1 (by omega)).1] at this
    cases this
  have mix : ∀ {k l m : Int}, 1 ≤ k → 1 ≤ l → l < m → m % l ≠ 0 → (∀ s : Int, 1 ≤ s → (Way.steps k).fits s = (Way.sums l m).fits s) → False := fun {k l m} k1 l1 lm z h => by
    have e1 := h l l1
    rw [(sums_lh l1 (by omega)).1] at e1
    have e2 := h k k1
    rw [fit_steps.mpr (Int.dvd_refl k)] at e2
    have e3 := h m (by omega)
    rw [(sums_lh l1 (by omega)).2] at e3
    have d1 := Int.le_of_dvd (by omega) (fit_steps.mp e1)
    have d2 := (least_sums l1 lm k1 e2.symm).1
    have : k = l := by omega
    subst this
    exact z (Int.emod_eq_zero_of_dvd (fit_steps.mp e3))
  cases w with
  | non =>
    cases w' with
    | non => rfl
    | steps k => exact (nonS v' h).elim
    | sums l k => exact (nonM v'.1 v'.2.1 h).elim
  | steps k =>
    cases w' with
    | non => exact (nonS v fun s hs => (h s hs).symm).elim
    | steps k' =>
      have k1 : 1 ≤ k := v
      have k2 : 1 ≤ k' := v'
      have d1 : k ∣ k' := fit_steps.mp (by rw [h k' k2]; exact fit_steps.mpr (Int.dvd_refl _))
      have d2 : k' ∣ k := fit_steps.mp (by rw [← h k k1]; exact fit_steps.mpr (Int.dvd_refl _))
      have := Int.le_of_dvd (by omega) d1
      have := Int.le_of_dvd (by omega) d2
      have : k = k' := by omega
      rw [this]
    | sums l m => exact (mix v v'.1 v'.2.1 v'.2.2 h).elim
  | sums l m =>
    obtain ⟨l1, lm, z⟩ := v
    cases w' with
    | non => exact (nonM l1 lm fun s hs => (h s hs).symm).elim
    | steps k => exact (mix v' l1 lm z fun s hs => (h s hs).symm).elim
    | sums l' m' =>
      obtain ⟨l1', lm', z'⟩ := v'
      have e1 : (Way.sums l' m').fits l = true := by rw [← h l l1]; exact (sums_lh l1 (by omega)).1
      have e2 : (Way.sums l m).fits l' = true := by rw [h l' l1']; exact (sums_lh l1' (by omega)).1
      have e3 : (Way.sums l' m').fits m = true := by rw [← h m (by omega)]; exact (sums_lh l1 (by omega)).2
      have e4 : (Way.sums l m).fits m' = true := by rw [h m' (by omega)]; exact (sums_lh l1' (by omega)).2
      have q1 := (least_sums l1' lm' l1 e1).1
      have q2 := (least_sums l1 lm l1' e2).1
      have el : l = l' := by omega
      subst el
      have q3 := (least_sums l1 lm' (by omega) e3).2 fun d => z (Int.emod_eq_zero_of_dvd d)
      have q4 := (least_sums l1 lm (by omega) e4).2 fun d => z' (Int.emod_eq_zero_of_dvd d)
      have : m = m' := by omega
      rw [this]
theorem fb_iff {a b bx a' b' bx' : List Int} (h : Fill a b bx ↔ Fill a' b' bx') : fillB a b bx = fillB a' b' bx' := by rw [Bool.eq_iff_iff, fillB_iff, fillB_iff]; exact h
theorem PB.side {a b bx : List Int} {ax : Nat} {s : Int} (h : PB a b bx) (hs : Pos s) : PB a b (bx.set ax s) := ⟨by simpa using h.la, by simpa using h.lb, by simpa using h.l0, by simpa using h.l1, h.pa, h.pb, fun x hx => by
  rcases List.mem_or_eq_of_mem_set hx with q | q
  · exact h.px x q
  · rw [q]; exact hs⟩
theorem turn_len {os : List Nat} {x : List Int} : (turnF os x).length = os.length := by unfold turnF; simp
theorem PB.turn {a b bx : List Int} {os : List Nat} (h : PB a b bx) (hp : os.Perm (List.range bx.length)) : PB (turnF os a) (turnF os b) (turnF os bx) := by
  have lo : os.length = bx.length := by have := hp.length_eq; simpa using this
  have bd : ∀ i (h : i < os.length), os[i] < bx.length := fun i h => List.mem_range.mp (hp.mem_iff.mp (List.getElem_mem h))
  have mem : ∀ {c : List Int}, c.length = bx.length → (∀ x ∈ c, Pos x) → ∀ x ∈ turnF os c, Pos x := fun {c} hl hc x hx => by
    obtain ⟨i, hi, rfl⟩ := List.mem_map.mp hx
    exact hc _ (gi_mem (by rw [hl]; exact List.mem_range.mp (hp.mem_iff.mp hi)))
  exact ⟨by rw [turn_len, turn_len], by rw [turn_len, turn_len], by rw [turn_len, lo]; exact h.l0, by rw [turn_len, lo]; exact h.l1, mem h.la h.pa, mem h.lb h.pb, mem rfl h.px⟩
theorem way_more {a b bx : List Int} {f g m : Int} {ax : Nat} (h : PB a b bx) (h2 : PB (a ++ [f]) (b ++ [g]) (bx ++ [m])) (hx : ax < bx.length) (df : f ∣ m) (dg : g ∣ m) : wayF (a ++ [f]) (b ++ [g]) (bx ++ [m]) ax = wayF a b bx ax := by
  have hx2 : ax < (bx ++ [m]).length := by simp; omega
  refine way_ext (wayV h2 hx2) (wayV h hx) fun s hs => ?_
  rw [← way_fits h2 hx2 hs, ← way_fits h hx hs, List.set_append_left _ _ hx]
  exact fb_iff (fill_more (by simpa using h.la) (by simpa using h.lb) df dg)
theorem PM.turn {a b : List Int} {ms : List Nat} {os : List Nat} (h : PM a b ms) (hp : os.Perm (List.range ms.length)) : PM (turnF os a) (turnF os b) (os.map fun i => ms.getD i 0) := by
  have lo : os.length = ms.length := by have := hp.length_eq; simpa using this
  have at' : ∀ i ∈ os, i < ms.length := fun i hi => List.mem_range.mp (hp.mem_iff.mp hi)
  refine ⟨by rw [turn_len]; simp, by rw [turn_len]; simp, by simp; have := h.l1; omega, fun x hx => ?_, fun x hx => ?_, fun x hx => ?_⟩
  · obtain ⟨i, hi, rfl⟩ := List.mem_map.mp hx
    exact (h.at (at' i hi)).2.2.1
  · obtain ⟨i, hi, rfl⟩ := List.mem_map.mp hx
    exact (h.at (at' i hi)).2.2.2.1
  · obtain ⟨i, hi, rfl⟩ := List.mem_map.mp hx
    exact (h.at (at' i hi)).2.2.2.2.2
end TW
set_option Elab.async false
set_option linter.all false
set_option maxRecDepth 100000
set_option maxHeartbeats 4000000
namespace TW
open PySem PySem.Spec PyProof.Rows L2 DL
def Way7 : Way → Prop
  | .non => True
  | .steps k => 1 ≤ k ∧ k ≤ 49
  | .sums l h => 1 ≤ l ∧ l < h ∧ h % l ≠ 0 ∧ h ≤ 7
theorem way7 {a b bx : List Int} {ax : Nat} (h : PB a b bx) (hx : ax < bx.length) (ha : In 7 a) (hb : In 7 b) : Way7 (wayF a b bx ax) := by
  have la := h.la
  have lb := h.lb
  have ga := ha _ (gi_mem (show ax < a.length by omega))
  have gb := hb _ (gi_mem (show ax < b.length by omega))
  have jl := joint_le ga.1 gb.1
  have m := Int.mul_le_mul ga.2 gb.2 (by omega) (by omega)
  unfold wayF
  split
  · split
    · unfold sumsW
      have m1 : min (gi a ax) (gi b ax) = gi a ax ∨ min (gi a ax) (gi b ax) = gi b ax := by omega
      split
      · show 1 ≤ min (gi a ax) (gi b ax) ∧ min (gi a ax) (gi b ax) ≤ 49
        omega
      · rename_i z
        have ne : max (gi a ax) (gi b ax) ≠ min (gi a ax) (gi b ax) := fun e => z (by rw [e]; exact Int.emod_self)
        exact ⟨by omega, by omega, z, by omega⟩
    · exact ⟨ga.1, by omega⟩
  · split
    · exact ⟨gb.1, by omega⟩
    · split
      · exact ⟨jl.1, by omega⟩
      · exact True.intro
theorem way7_sm {w : Way} (h : Way7 w) : WaySm w := by
  cases w with
  | non => exact True.intro
  | steps k => exact ⟨h.1, by have := h.2; omega⟩
  | sums l h' =>
    obtain ⟨h1, h2, h3, h4⟩ := h
    exact ⟨h1, h2, h3, by omega⟩
theorem scale_fits {w : Way} (h : Way7 w) {t s : Int} (ht : 1 ≤ t) : (w.scale t).fits s = true ↔ t ∣ s ∧ w.fits (s / t) = true := by
  cases w with
  | non => simp [Way.scale, Way.fits]
  | steps k =>
    simp only [Way.scale, Way.fits, decide_eq_true_eq]
    constructor
    · intro e
      obtain ⟨c, rfl⟩ := Int.dvd_of_emod_eq_zero e
      have : k * t * c = t * (k * c) := by rw [Int.mul_comm k t, Int.mul_assoc]
      rw [this, Int.mul_ediv_cancel_left _ (by omega)]
      exact ⟨Int.dvd_mul_right .., Int.mul_emod_right ..⟩
    · rintro ⟨⟨c, rfl⟩, e⟩
      rw [Int.mul_ediv_cancel_left _ (by omega)] at e
      obtain ⟨x, rfl⟩ := Int.dvd_of_emod_eq_zero e
      have : t * (k * x) = k * t * x := by rw [← Int.mul_assoc, Int.mul_comm t k]
      rw [this]
      exact Int.mul_emod_right ..
  | sums l h' =>
    obtain ⟨h1, h2, h3, h4⟩ := h
    have p1 := Int.mul_le_mul h1 ht (by omega) (by omega)
    have p2 := Int.mul_le_mul (show 1 ≤ h' by omega) ht (by omega) (by omega)
    simp only [Way.scale, Way.fits]
    rw [isSum_iff (by omega) (by omega)]
    constructor
    · rintro ⟨x, y, x0, y0, rfl⟩
      have : l * t * x + h' * t * y = t * (l * x + h' * y) := by rw [Int.mul_comm l t, Int.mul_comm h' t, Int.mul_assoc, Int.mul_assoc, Int.mul_add]
      rw [this, Int.mul_ediv_cancel_left _ (by omega)]
      exact ⟨Int.dvd_mul_right .., (isSum_iff h1 (by omega)).mpr ⟨x, y, x0, y0, rfl⟩⟩
    · rintro ⟨⟨c, rfl⟩, e⟩
      rw [Int.mul_ediv_cancel_left _ (by omega)] at e
      obtain ⟨x, y, x0, y0, rfl⟩ := (isSum_iff h1 (by omega)).mp e
      exact ⟨x, y, x0, y0, by rw [Int.mul_comm l t, Int.mul_comm h' t, Int.mul_assoc, Int.mul_assoc, Int.mul_add]⟩

theorem way7_sc {w : Way} (h : Way7 w) {t : Int} (t1 : 1 ≤ t) (t2 : t ≤ 10 ^ 11 + 1) : WaySm (w.scale t) := by
  cases w with
  | non => exact True.intro
  | steps k =>
    obtain ⟨g1, g2⟩ := h
    have m1 := Int.mul_le_mul g1 t1 (by omega) (by omega)
    have m2 := Int.mul_le_mul g2 t2 (by omega) (by omega)
    exact ⟨by omega, by omega⟩
  | sums l h' =>
    obtain ⟨h1, h2, h3, h4⟩ := h
    have m1 := Int.mul_le_mul h1 t1 (by omega) (by omega)
    have m2 := Int.mul_le_mul h4 t2 (by omega) (by omega)
    refine ⟨by omega, (Int.mul_lt_mul_right (by omega)).mpr h2, ?_, by omega⟩
    rw [Int.mul_comm h', Int.mul_comm l, Int.mul_emod_mul_of_pos _ _ (by omega)]
    exact fun e => (Int.mul_eq_zero.mp e).elim (by omega) h3
/-- the side with a number -/
structure AtIs (w : Way) (N r : Nat) : Prop where
  r1 : 1 ≤ r
  fit : w.fits (r : Int) = true
  cnt : cntW w r = N + 1
theorem AtIs.uni {w : Way} {N r r' : Nat} (h : AtIs w N r) (h' : AtIs w N r') : r = r' := by
  have lt : ∀ {x y : Nat}, 1 ≤ y → w.fits (y : Int) = true → cntW w x = N + 1 → cntW w y = N + 1 → ¬ x < y := fun {x y} y1 fy cx cy l => by
    obtain ⟨z, rfl⟩ : ∃ z, y = z + 1 := ⟨y - 1, by omega⟩
    have s := cntW_succ w z
    rw [if_pos fy] at s
    have u := cnt_up (p := fun s => w.fits (s : Int)) (show x ≤ z by omega)
    unfold cntW at s cx cy
    omega
  have a1 := lt h'.r1 h'.fit h.cnt h'.cnt
  have a2 := lt h.r1 h.fit h'.cnt h.cnt
  omega
/-- a side that fits has its number -/
theorem at_of {w : Way} {s : Nat} (f : w.fits ((s + 1 : Nat) : Int) = true) : AtIs w (cntW w s) (s + 1) := ⟨by omega, f, by rw [cntW_succ, if_pos f]⟩
theorem AtIs.pred {w : Way} {N r : Nat} (h : AtIs w N r) : ∃ s, r = s + 1 ∧ w.fits ((s + 1 : Nat) : Int) = true ∧ cntW w s = N := by
  obtain ⟨r1, f, c⟩ := h
  obtain ⟨s, rfl⟩ : ∃ s, r = s + 1 := ⟨r - 1, by omega⟩
  rw [cntW_succ, if_pos f] at c
  exact ⟨s, rfl, f, by omega⟩
theorem AtIs.le {w : Way} (h7 : Way7 w) {N r : Nat} (h : AtIs w N r) : r ≤ 49 * (N + 1) := by
  have key : ∀ k : Nat, 1 ≤ k → k ≤ 49 → (∀ x : Nat, k ∣ x → w.fits (x : Int) = true) → r ≤ 49 * (N + 1) := fun k k1 k2 hk => by
    obtain ⟨z, rfl, _, c⟩ := h.pred
    have sub : ∀ {p q : Nat → Bool}, (∀ s, p s = true → q s = true) → ∀ M, cntP p M ≤ cntP q M := fun {p q} h M => by
      induction M with
      | zero => exact Nat.le_refl _
      | succ M ih =>
        rw [cnt_succ, cnt_succ]
        by_cases c : p (M + 1) = true
        · rw [if_pos c, if_pos (h _ c)]
          omega
        · rw [if_neg c]
          omega
    have c1 := sub (p := fun s => decide ((s : Int) % (k : Int) = 0)) (q := fun s => w.fits (s : Int)) (fun s hs => hk s (Int.natCast_dvd_natCast.mp (Int.dvd_iff_emod_eq_zero.mpr (of_decide_eq_true hs)))) z
    rw [cnt_mult (by omega)] at c1
    unfold cntW at c
    have : z < k * (N + 1) := by
      have := Nat.lt_mul_div_succ z (show 0 < k by omega)
      have m := Nat.mul_le_mul_left k (show z / k + 1 ≤ N + 1 by omega)
      omega
    have m := Nat.mul_le_mul_right (N + 1) k2
    omega
  cases w with
  | non => cases h.fit
  | steps k =>
    obtain ⟨k1, k2⟩ := h7
    refine key k.toNat (by omega) (by omega) fun x d => fit_steps.mpr ?_
    have := Int.natCast_dvd_natCast.mpr d
    rwa [Int.toNat_of_nonneg (by omega)] at this
  | sums l h' =>
    obtain ⟨l1, lh, _, h2⟩ := h7
    refine key l.toNat (by omega) (by omega) fun x d => ?_
    have := Int.natCast_dvd_natCast.mpr d
    rw [Int.toNat_of_nonneg (by omega)] at this
    exact isSum_l l1 (by omega) (by omega) this
/-- the scaled way's side with a number -/
theorem AtIs.scaled {w : Way} (h7 : Way7 w) {t N r : Nat} (ht : 1 ≤ t) (h : AtIs (w.scale (t : Int)) N r) : ∃ u, r = t * u ∧ AtIs w N u := by
  obtain ⟨d, f⟩ := (scale_fits h7 (show 1 ≤ (t : Int) by omega)).mp h.fit
  obtain ⟨u, rfl⟩ := Int.natCast_dvd_natCast.mp d
  rw [Int.natCast_mul, Int.mul_ediv_cancel_left _ (by omega)] at f
  have u1 : 1 ≤ u := by
    have := h.r1
    cases u with
    | zero => rw [Nat.mul_zero] at this; omega
    | succ u => omega
  refine ⟨u, rfl, u1, f, ?_⟩
  have c : cntW (w.scale (t : Int)) (t * u) = cntW w (t * u / t) := cnt_times ht (fun s hs => by
    cases q : (w.scale (t : Int)).fits (s : Int) with
    | false => rfl
    | true => exact absurd (Int.natCast_dvd_natCast.mp ((scale_fits h7 (show 1 ≤ (t : Int) by omega)).mp q).1) hs) (fun u _ => by
    rw [Bool.eq_iff_iff, scale_fits h7 (show 1 ≤ (t : Int) by omega), Int.natCast_mul, Int.mul_ediv_cancel_left _ (by omega)]
    exact ⟨fun h => h.2, fun h => ⟨Int.dvd_mul_right .., h⟩⟩) _
  rw [Nat.mul_div_cancel_left _ (by omega)] at c
  rw [← c]
  exact h.cnt
theorem fitL_succ (w : Way) (M : Nat) : fitL w ((M + 1 : Nat) : Int) = fitL w (M : Nat) ++ if w.fits ((M + 1 : Nat) : Int) = true then [((M + 1 : Nat) : Int)] else [] := by
  unfold fitL
  rw [Int.toNat_natCast, Int.toNat_natCast, List.range_succ, List.map_append, List.filter_append]
  congr 1
  have e : 1 + ((M : Nat) : Int) = ((M + 1 : Nat) : Int) := by omega
  by_cases c : w.fits ((M + 1 : Nat) : Int) = true
  · rw [if_pos c]
    simp only [List.map_cons, List.map_nil, e, List.filter_cons, c, List.filter_nil, if_true]
  · rw [if_neg c]
    simp only [List.map_cons, List.map_nil, e, List.filter_cons, c, List.filter_nil]
    rfl
theorem fit_at {w : Way} {N r : Nat} (h : AtIs w N r) : ∀ {M : Nat}, r ≤ M → (fitL w (M : Nat))[N]? = some (r : Int)
  | 0, hr => by have := h.r1; omega
  | M + 1, hr => by
    have fc := fit_cnt w M
    rw [fitL_succ]
    by_cases c : r ≤ M
    · have ih := fit_at h c
      rw [List.getElem?_append_left (List.getElem?_eq_some_iff.mp ih).1]
      exact ih
    · obtain rfl : r = M + 1 := by omega
      have cn := h.cnt
      rw [cntW_succ, if_pos h.fit] at cn
      unfold cntW at cn
      rw [if_pos h.fit, List.getElem?_append_right (by omega), show N - (fitL w (M : Nat)).length = 0 by omega]
      rfl
theorem fit_mem {w : Way} {M : Nat} {x : Int} : x ∈ fitL w (M : Nat) ↔ (1 ≤ x ∧ x ≤ M) ∧ w.fits x = true := by
  unfold fitL
  rw [List.mem_filter, List.mem_map, Int.toNat_natCast]
  constructor
  · rintro ⟨⟨i, hi, rfl⟩, h⟩
    have := List.mem_range.mp hi
    exact ⟨⟨by omega, by omega⟩, h⟩
  · rintro ⟨⟨h0, h1⟩, h⟩
    exact ⟨⟨(x - 1).toNat, List.mem_range.mpr (by omega), by omega⟩, h⟩
/-- what stands at a place there has that number -/
theorem at_fit {w : Way} {M N : Nat} (h : N < (fitL w (M : Nat)).length) : ∃ r : Nat, (fitL w (M : Nat))[N]? = some (r : Int) ∧ AtIs w N r := by
  have lt := h
  obtain ⟨⟨h0, h1⟩, h2⟩ := fit_mem.mp (List.getElem_mem h)
  obtain ⟨s, es⟩ : ∃ s : Nat, (fitL w (M : Nat))[N] = ((s + 1 : Nat) : Int) := ⟨((fitL w (M : Nat))[N] - 1).toNat, by omega⟩
  rw [es] at h1 h2
  have a := at_of h2
  have e := fit_at a (M := M) (by omega)
  obtain ⟨l2, e2⟩ := List.getElem?_eq_some_iff.mp e
  have nd : (fitL w (M : Nat)).Nodup := by
    unfold fitL
    refine List.Pairwise.filter _ (List.pairwise_map.mpr ?_)
    exact List.Pairwise.imp (fun h => by omega) List.nodup_range
  have : N = cntW w s := (List.getElem_inj nd).mp (es.trans e2.symm)
  rw [← this] at a e
  exact ⟨s + 1, e, a⟩
theorem fit_none {w : Way} (h7 : Way7 w) {M : Nat} (hM : 49 ≤ M) : fitL w (M : Nat) = [] ↔ w = .non := by
  constructor
  · intro e
    cases w with
    | non => rfl
    | steps k =>
      obtain ⟨k1, k2⟩ := h7
      have : k ∈ fitL (.steps k) (M : Nat) := fit_mem.mpr ⟨⟨k1, by omega⟩, fit_steps.mpr (Int.dvd_refl _)⟩
      rw [e] at this
      cases this
    | sums l h =>
      obtain ⟨l1, lh, _, h2⟩ := h7
      have : l ∈ fitL (.sums l h) (M : Nat) := fit_mem.mpr ⟨⟨l1, by omega⟩, (sums_lh l1 (by omega)).1⟩
      rw [e] at this
      cases this
  · rintro rfl
    refine List.eq_nil_iff_forall_not_mem.mpr fun x hx => ?_
    have := (fit_mem.mp hx).2
    cases this
theorem nb_sum {n : Nat} (hn : 1 ≤ n) {q t : Nat} (ht : t < n) : isSum (n : Int) ((n + 1 : Nat) : Int) ((q * n + t : Nat) : Int) = decide (t ≤ q) := by
  rw [Bool.eq_iff_iff, isSum_iff (by omega) (by omega), decide_eq_true_eq]
  constructor
  · rintro ⟨x, y, x0, y0, e⟩
    obtain ⟨X, rfl⟩ : ∃ X : Nat, x = (X : Int) := ⟨x.toNat, by omega⟩
    obtain ⟨Y, rfl⟩ : ∃ Y : Nat, y = (Y : Int) := ⟨y.toNat, by omega⟩
    have e : n * X + (n + 1) * Y = q * n + t := by
      have : ((n * X + (n + 1) * Y : Nat) : Int) = ((q * n + t : Nat) : Int) := by rw [← e]; push_cast; rfl
      exact Int.ofNat.inj this
    have e2 : n * (X + Y) + Y = n * q + t := by rw [Nat.mul_add, Nat.mul_comm n q, ← e, Nat.add_mul, Nat.one_mul]; omega
    by_cases c : q < X + Y
    · exfalso
      have m := Nat.mul_le_mul_left n (show q + 1 ≤ X + Y by omega)
      rw [Nat.mul_add, Nat.mul_one] at m
      omega
    · have m := Nat.mul_le_mul_left n (show X + Y ≤ q by omega)
      obtain ⟨d, hd⟩ : ∃ d, q = X + Y + d := ⟨q - (X + Y), by omega⟩
      subst hd
      rw [Nat.mul_add n (X + Y) d] at e2
      have md : d = 0 ∨ n ≤ n * d := by
        cases d with
        | zero => exact .inl rfl
        | succ d => exact .inr (Nat.le_mul_of_pos_right n (by omega))
      by_cases c2 : Y ≤ X + Y + d
      · by_cases c3 : t ≤ Y
        · omega
        · omega
      · omega
  · intro h
    refine ⟨((q - t : Nat) : Int), (t : Int), by omega, by omega, ?_⟩
    have : n * (q - t) + (n + 1) * t = q * n + t := by
      rw [Nat.add_mul, Nat.one_mul, ← Nat.add_assoc, ← Nat.mul_add, show q - t + t = q by omega, Nat.mul_comm]
    rw [← this]
    push_cast
    rfl
theorem nb_cnt {n : Nat} (hn : 1 ≤ n) : ∀ q t, q < n → t < n → 2 * cntP (fun s => isSum (n : Int) ((n + 1 : Nat) : Int) (s : Int)) (q * n + t) = q * (q + 1) + 2 * min t q := by
  have row : ∀ q, q < n → 2 * cntP (fun s => isSum (n : Int) ((n + 1 : Nat) : Int) (s : Int)) (q * n) = q * (q + 1) → ∀ t, t < n → 2 * cntP (fun s => isSum (n : Int) ((n + 1 : Nat) : Int) (s : Int)) (q * n + t) = q * (q + 1) + 2 * min t q := fun q hq h0 t => by
    induction t with
    | zero =>
      intro _
      show 2 * cntP (fun s => isSum (n : Int) ((n + 1 : Nat) : Int) (s : Int)) (q * n) = _
      rw [h0, Nat.zero_min]
      rfl
    | succ t ih =>
      intro ht
      have ih := ih (by omega)
      rw [show q * n + (t + 1) = q * n + t + 1 by omega, cnt_succ]
      have e := nb_sum hn (q := q) ht
      rw [show q * n + (t + 1) = q * n + t + 1 by omega] at e
      rw [e]
      by_cases c : t + 1 ≤ q
      · rw [if_pos (by simpa using c)]
        omega
      · rw [if_neg (by simpa using c)]
        omega
  intro q
  induction q with
  | zero =>
    intro t h1 h2
    refine row 0 h1 ?_ t h2
    rw [Nat.zero_mul]
    rfl
  | succ q ih =>
    intro t h1 h2
    refine row (q + 1) h1 ?_ t h2
    have l := ih (n - 1) (by omega) (by omega)
    have e : (q + 1) * n = q * n + (n - 1) + 1 := by rw [Nat.add_mul, Nat.one_mul]; omega
    have f := nb_sum hn (q := q + 1) (t := 0) (by omega)
    rw [Nat.add_zero, e] at f
    rw [e, cnt_succ, f, if_pos (by simp)]
    have m : (q + 1) * (q + 1 + 1) = q * (q + 1) + 2 * (q + 1) := by grind
    rw [m]
    omega
theorem way_one1 (x y s : Int) : wayF [x] [y] [s] 0 = sumsW x y := by
  have nil : ∀ z : Int, restsX [z] [s] 0 = [] := fun z => by
    unfold restsX
    rfl
  unfold wayF
  rw [if_pos (nil _), if_pos (nil _)]
  rfl
theorem nb_way {n : Nat} (hn : 2 ≤ n) : sumsW (n : Int) ((n + 1 : Nat) : Int) = .sums (n : Int) ((n + 1 : Nat) : Int) ∧ sumsW ((n + 1 : Nat) : Int) (n : Int) = .sums (n : Int) ((n + 1 : Nat) : Int) := by
  have e : ((n + 1 : Nat) : Int) % (n : Int) = 1 := by
    rw [← Int.natCast_emod, Nat.add_mod_left, Nat.mod_eq_of_lt (by omega)]
    rfl
  constructor
  · unfold sumsW
    rw [Int.min_eq_left (by omega), Int.max_eq_right (by omega), e]; rfl
  · unfold sumsW
    rw [Int.min_eq_right (by omega), Int.max_eq_left (by omega), e]; rfl
end TW
set_option Elab.async false
set_option linter.all false
set_option maxRecDepth 100000
set_option maxHeartbeats 4000000
namespace K54
open PySem PySem.Spec PyProof.Rows L2 DL TW
abbrev sp_law : DSp := spLaw
def sp_Lneighbours_right : DSp := fun cs R => ∃ n r t N : Nat, cs = [.d (.int (n : Int)), .d (.int (r : Int)), .d (.int ((r * n + t : Nat) : Int)), .d (.int (N : Int))] ∧ 2 ≤ n ∧ n ≤ 10 ^ 5 ∧ 1 ≤ r ∧ r < n ∧ t ≤ r ∧ 2 * (N + 1) = r * (r + 1) + 2 * t ∧ R (.bool true) cs
def sp_Lone_and_more : DSp := fun cs R => ∃ a b c, cs = [.dk a b c] ∧ R (.bool true) [.dk a b c]
def w_Lneighbours_right_t1 : DTS := (wIf (wAnd (wB (wOp pLt (wVar 1) (wOp pSubB (wVar 0) (wC (.int 1))))) (wB (wOp pNe (wFn pReprN (wCons (wCall [] sp_next_side (wCons (wVar 5) (wCons (wVar 6) (wCons (wC (.int 0)) (wCons (wOp pAddB (wOp pAddB (wOp pMulT (wVar 1) (wVar 0)) (wVar 1)) (wC (.int 1))) wNil))))) wNil)) (wFn pReprN (wCons (wOp pMulT (wOp pAddB (wVar 1) (wC (.int 1))) (wVar 0)) wNil))))) (wRet (wC (.bool false))) wNext)
def w_Lneighbours_right_t2 : DTS := (wSeq (wIf (wB (wOp pNe (wFn pReprN (wCons (wOfL (wLst (wCons (wCall [] sp_box_number (wCons (wVar 5) (wCons (wVar 6) (wCons (wVar 6) wNil)))) (wCons (wCall [] sp_box_at (wCons (wVar 5) (wCons (wVar 6) (wCons (wVar 3) wNil)))) wNil)))) wNil)) (wFn pReprN (wCons (wOfL (wLst (wCons (wVar 3) (wCons (wVar 6) wNil)))) wNil)))) (wRet (wC (.bool false))) wNext) w_Lneighbours_right_t1)
def w_Lneighbours_right_s1 : DTS := (wSeq (wIf (wB (wOp pNe (wFn pReprN (wCons (wOfL (wLst (wCons (wCall [] sp_next_side (wCons (wVar 5) (wCons (wVar 6) (wCons (wC (.int 0)) (wCons (wVar 2) wNil))))) (wCons (wCall [] sp_count_boxes (wCons (wVar 5) (wCons (wVar 6) wNil))) wNil)))) wNil)) (wFn pReprN (wCons (wOfL (wLst (wCons (wVar 2) (wCons (wOp pAddB (wVar 3) (wC (.int 1))) wNil)))) wNil)))) (wRet (wC (.bool false))) wNext) w_Lneighbours_right_t2)
@[simp ↓] theorem w_Lneighbours_right_s1_ap (E : DEnds) (δ : DS) : w_Lneighbours_right_s1 E δ = (wSeq (wIf (wB (wOp pNe (wFn pReprN (wCons (wOfL (wLst (wCons (wCall [] sp_next_side (wCons (wVar 5) (wCons (wVar 6) (wCons (wC (.int 0)) (wCons (wVar 2) wNil))))) (wCons (wCall [] sp_count_boxes (wCons (wVar 5) (wCons (wVar 6) wNil))) wNil)))) wNil)) (wFn pReprN (wCons (wOfL (wLst (wCons (wVar 2) (wCons (wOp pAddB (wVar 3) (wC (.int 1))) wNil)))) wNil)))) (wRet (wC (.bool false))) wNext) w_Lneighbours_right_t2) E δ := rfl
def w_Lneighbours_right_3 : DTS := (wSeq (wPar2 5 6 (msCons (mE (wTup (wCons (wOp pAddB (wTup (wCons (wVar 0) wNil)) (wVar 4)) (wCons (wOp pAddB (wTup (wCons (wOp pAddB (wVar 0) (wC (.int 1))) wNil)) (wVar 4)) wNil)))) (msCons (mE (wOp pAddB (wTup (wCons (wVar 2) wNil)) (wVar 4))) msNil))) w_Lneighbours_right_s1)
def w_Lneighbours_right : DTS := (wSeq (wFor (iSeq (wOfL (wLst (wCons (wTup wNil) (wCons (wTup (wCons (wC (.int 1)) wNil)) wNil))))) (gN 4) w_Lneighbours_right_3) (wRet (wC (.bool true))))
def w_Lone_and_more_t1 : DTS := (wRet (wCall [] sp_Lneighbours_right (wCons (wVar 1) (wCons (wVar 2) (wCons (wOp pAddB (wOp pMulT (wVar 2) (wVar 1)) (wVar 3)) (wCons (wVar 4) wNil))))))
def w_Lone_and_more_t2 : DTS := (wSeq (wIf (wB (wOp pNe (wFn pReprN (wCons (wCall [] sp_side_number (wCons (wTup (wCons (wTup (wCons (wOp pAddB (wVar 1) (wC (.int 1))) wNil)) (wCons (wTup (wCons (wVar 1) wNil)) wNil))) (wCons (wTup (wCons (wC (.int 1)) wNil)) (wCons (wC (.int 0)) (wCons (wOp pAddB (wOp pMulT (wVar 2) (wVar 1)) (wVar 3)) wNil))))) wNil)) (wFn pReprN (wCons (wVar 4) wNil)))) (wRet (wC (.bool false))) wNext) w_Lone_and_more_t1)
def w_Lone_and_more_s1 : DTS := (wSeq (wIf (wB (wOp pNe (wFn pReprN (wCons (wCall [] sp_side_at (wCons (wTup (wCons (wTup (wCons (wVar 1) wNil)) (wCons (wTup (wCons (wOp pAddB (wVar 1) (wC (.int 1))) wNil)) wNil))) (wCons (wTup (wCons (wC (.int 1)) wNil)) (wCons (wC (.int 0)) (wCons (wVar 4) wNil))))) wNil)) (wFn pReprN (wCons (wOp pAddB (wOp pMulT (wVar 2) (wVar 1)) (wVar 3)) wNil)))) (wRet (wC (.bool false))) wNext) w_Lone_and_more_t2)
@[simp ↓] theorem w_Lone_and_more_s1_ap (E : DEnds) (δ : DS) : w_Lone_and_more_s1 E δ = (wSeq (wIf (wB (wOp pNe (wFn pReprN (wCons (wCall [] sp_side_at (wCons (wTup (wCons (wTup (wCons (wVar 1) wNil)) (wCons (wTup (wCons (wOp pAddB (wVar 1) (wC (.int 1))) wNil)) wNil))) (wCons (wTup (wCons (wC (.int 1)) wNil)) (wCons (wC (.int 0)) (wCons (wVar 4) wNil))))) wNil)) (wFn pReprN (wCons (wOp pAddB (wOp pMulT (wVar 2) (wVar 1)) (wVar 3)) wNil)))) (wRet (wC (.bool false))) wNext) w_Lone_and_more_t2) E δ := rfl
def w_Lone_and_more_s2 : DTS := (wSeq (wSet 4 (mE (wOp pSubB (wOp pAddB (wOp pDiv (wOp pMulT (wVar 2) (wOp pAddB (wVar 2) (wC (.int 1)))) (wC (.int 2))) (wVar 3)) (wC (.int 1))))) w_Lone_and_more_s1)
@[simp ↓] theorem w_Lone_and_more_s2_ap (E : DEnds) (δ : DS) : w_Lone_and_more_s2 E δ = (wSeq (wSet 4 (mE (wOp pSubB (wOp pAddB (wOp pDiv (wOp pMulT (wVar 2) (wOp pAddB (wVar 2) (wC (.int 1)))) (wC (.int 2))) (wVar 3)) (wC (.int 1))))) w_Lone_and_more_s1) E δ := rfl
def w_Lone_and_more_s3 : DTS := (wSeq (wSet 3 (mE (wCall [true, false] sp_Ldraw (wCons (wVar 0) (wCons (wOp pAddB (wVar 2) (wC (.int 1))) wNil))))) w_Lone_and_more_s2)
@[simp ↓] theorem w_Lone_and_more_s3_ap (E : DEnds) (δ : DS) : w_Lone_and_more_s3 E δ = (wSeq (wSet 3 (mE (wCall [true, false] sp_Ldraw (wCons (wVar 0) (wCons (wOp pAddB (wVar 2) (wC (.int 1))) wNil))))) w_Lone_and_more_s2) E δ := rfl
def w_Lone_and_more_s4 : DTS := (wSeq (wSet 2 (mE (wOp pAddB (wC (.int 1)) (wCall [true, false] sp_Ldraw (wCons (wVar 0) (wCons (wOp pSubB (wVar 1) (wC (.int 1))) wNil)))))) w_Lone_and_more_s3)
@[simp ↓] theorem w_Lone_and_more_s4_ap (E : DEnds) (δ : DS) : w_Lone_and_more_s4 E δ = (wSeq (wSet 2 (mE (wOp pAddB (wC (.int 1)) (wCall [true, false] sp_Ldraw (wCons (wVar 0) (wCons (wOp pSubB (wVar 1) (wC (.int 1))) wNil)))))) w_Lone_and_more_s3) E δ := rfl
def w_Lone_and_more : DTS := (wSeq (wSet 1 (mE (wOp pAddB (wC (.int 2)) (wCall [true, false] sp_Ldraw (wCons (wVar 0) (wCons (wOp pMulT (wC (.int 5)) (wOp pPow (wC (.int 10)) (wC (.int 4)))) wNil)))))) w_Lone_and_more_s4)
def w_law_t1 : DTS := (wIf (wAnd (wB (wOp pIsNot (wVar 7) (wC .none))) (wB (wOp pNe (wFn pReprN (wCons (wCall [] sp_side_at (wCons (wVar 3) (wCons (wVar 4) (wCons (wVar 5) (wCons (wVar 7) wNil))))) wNil)) (wFn pReprN (wCons (wVar 9) wNil))))) (wRet (wC (.bool false))) wNext)
def w_law_s1 : DTS := (wSeq (wIf (wB (wOp pNe (wOp pIsNot (wVar 7) (wC .none)) (wCall [] sp_Lfar_filled (wCons (wVar 3) (wCons (wCall [] sp_Lwith (wCons (wVar 4) (wCons (wVar 5) (wCons (wVar 9) wNil)))) wNil))))) (wRet (wC (.bool false))) wNext) w_law_t1)
@[simp ↓] theorem w_law_s1_ap (E : DEnds) (δ : DS) : w_law_s1 E δ = (wSeq (wIf (wB (wOp pNe (wOp pIsNot (wVar 7) (wC .none)) (wCall [] sp_Lfar_filled (wCons (wVar 3) (wCons (wCall [] sp_Lwith (wCons (wVar 4) (wCons (wVar 5) (wCons (wVar 9) wNil)))) wNil))))) (wRet (wC (.bool false))) wNext) w_law_t1) E δ := rfl
def w_law_s2 : DTS := (wSeq (wSet 7 (mE (wCall [] sp_side_number (wCons (wVar 3) (wCons (wVar 4) (wCons (wVar 5) (wCons (wVar 9) wNil))))))) w_law_s1)
@[simp ↓] theorem w_law_s2_ap (E : DEnds) (δ : DS) : w_law_s2 E δ = (wSeq (wSet 7 (mE (wCall [] sp_side_number (wCons (wVar 3) (wCons (wVar 4) (wCons (wVar 5) (wCons (wVar 9) wNil))))))) w_law_s1) E δ := rfl
def w_law_s3 : DTS := (wIf (wB (wOp pNe (wFn pReprN (wCons (wVar 8) wNil)) (wFn pReprN (wCons (wIfE (wB (wOp pIs (wVar 10) (wC .none))) (wC .none) (wOp pMulT (wVar 10) (wVar 12))) wNil)))) (wRet (wC (.bool false))) wNext)
@[simp ↓] theorem w_law_s3_ap (E : DEnds) (δ : DS) : w_law_s3 E δ = (wIf (wB (wOp pNe (wFn pReprN (wCons (wVar 8) wNil)) (wFn pReprN (wCons (wIfE (wB (wOp pIs (wVar 10) (wC .none))) (wC .none) (wOp pMulT (wVar 10) (wVar 12))) wNil)))) (wRet (wC (.bool false))) wNext) E δ := rfl
def w_law_2 : DTS := (wSeq (wPar2 8 10 (msCons (mE (wCall [] sp_side_at (wCons (wVar 13) (wCons (wVar 4) (wCons (wVar 5) (wCons (wVar 7) wNil)))))) (msCons (mE (wCall [] sp_side_at (wCons (wVar 3) (wCons (wVar 4) (wCons (wVar 5) (wCons (wVar 7) wNil)))))) msNil))) w_law_s3)
def w_law_t2 : DTS := (wSeq (wSet 9 (mE (wOp pSubB (wOp pPow (wC (.int 10)) (wC (.int 12))) (wCall [true, false] sp_Ldraw (wCons (wVar 1) (wCons (wC (.int 90)) wNil)))))) w_law_s2)
def w_law_s4 : DTS := (wSeq (wFor (iSeq (wOfL (wLst (wCons (wC (.int 0)) (wCons (wC (.int 1)) (wCons (wOp pMulT (wCall [true, false] sp_Ldraw (wCons (wVar 1) (wCons (wOp pPow (wC (.int 10)) (wC (.int 6))) wNil))) (wOp pPow (wC (.int 10)) (wC (.int 5)))) (wCons (wOp pPow (wC (.int 10)) (wC (.int 12))) wNil))))))) (gN 7) w_law_2) w_law_t2)
@[simp ↓] theorem w_law_s4_ap (E : DEnds) (δ : DS) : w_law_s4 E δ = (wSeq (wFor (iSeq (wOfL (wLst (wCons (wC (.int 0)) (wCons (wC (.int 1)) (wCons (wOp pMulT (wCall [true, false] sp_Ldraw (wCons (wVar 1) (wCons (wOp pPow (wC (.int 10)) (wC (.int 6))) wNil))) (wOp pPow (wC (.int 10)) (wC (.int 5)))) (wCons (wOp pPow (wC (.int 10)) (wC (.int 12))) wNil))))))) (gN 7) w_law_2) w_law_t2) E δ := rfl
def w_law_s5 : DTS := (wSeq (wSet 13 (mE (wFn pTupOf (wCons (wOfL (wComp (iSeq (wVar 3)) (gN 14) tT (wCall [] sp_Lwith (wCons (wVar 14) (wCons (wVar 5) (wCons (wOp pMulT (wOp pIx (wVar 14) (wVar 5)) (wVar 12)) wNil)))) [14])) wNil)))) w_law_s4)
@[simp ↓] theorem w_law_s5_ap (E : DEnds) (δ : DS) : w_law_s5 E δ = (wSeq (wSet 13 (mE (wFn pTupOf (wCons (wOfL (wComp (iSeq (wVar 3)) (gN 14) tT (wCall [] sp_Lwith (wCons (wVar 14) (wCons (wVar 5) (wCons (wOp pMulT (wOp pIx (wVar 14) (wVar 5)) (wVar 12)) wNil)))) [14])) wNil)))) w_law_s4) E δ := rfl
def w_law_s6 : DTS := (wIf (wB (wOp pNe (wFn pReprN (wCons (wVar 11) wNil)) (wFn pReprN (wCons (wOfL (wLst (wCons (wVar 7) (wCons (wOp pAddB (wVar 7) (wC (.int 1))) wNil)))) wNil)))) (wRet (wC (.bool false))) wNext)
@[simp ↓] theorem w_law_s6_ap (E : DEnds) (δ : DS) : w_law_s6 E δ = (wIf (wB (wOp pNe (wFn pReprN (wCons (wVar 11) wNil)) (wFn pReprN (wCons (wOfL (wLst (wCons (wVar 7) (wCons (wOp pAddB (wVar 7) (wC (.int 1))) wNil)))) wNil)))) (wRet (wC (.bool false))) wNext) E δ := rfl
def w_law_4 : DTS := (wSeq (wSet 11 (mE (wOfL (wLst (wCons (wCall [] sp_side_number (wCons (wVar 3) (wCons (wVar 4) (wCons (wVar 5) (wCons (wVar 8) wNil))))) (wCons (wCall [] sp_count_along (wCons (wVar 3) (wCons (wVar 4) (wCons (wVar 5) (wCons (wVar 8) wNil))))) wNil)))))) w_law_s6)
def w_law_t3 : DTS := (wIf (wAnd (wB (wOp pNe (wVar 6) (wOfL (wLst wNil)))) (wB (wOp pLe (wVar 8) (wOp pPow (wC (.int 10)) (wC (.int 12)))))) w_law_4 wNext)
def w_law_t4 : DTS := (wSeq (wIf (wAnd (wB (wOp pNe (wVar 6) (wOfL (wLst wNil)))) (wNot (wB (wCall [] sp_Lfar_filled (wCons (wVar 3) (wCons (wCall [] sp_Lwith (wCons (wVar 4) (wCons (wVar 5) (wCons (wVar 8) wNil)))) wNil)))))) (wRet (wC (.bool false))) wNext) w_law_t3)
def w_law_s7 : DTS := (wSeq (wIf (wAnd (wB (wOp pEq (wVar 6) (wOfL (wLst wNil)))) (wB (wOp pIsNot (wVar 8) (wC .none)))) (wRet (wC (.bool false))) wNext) w_law_t4)
@[simp ↓] theorem w_law_s7_ap (E : DEnds) (δ : DS) : w_law_s7 E δ = (wSeq (wIf (wAnd (wB (wOp pEq (wVar 6) (wOfL (wLst wNil)))) (wB (wOp pIsNot (wVar 8) (wC .none)))) (wRet (wC (.bool false))) wNext) w_law_t4) E δ := rfl
def w_law_7 : DTS := (wSeq (wSet 8 (mE (wCall [] sp_side_at (wCons (wVar 3) (wCons (wVar 4) (wCons (wVar 5) (wCons (wVar 7) wNil))))))) w_law_s7)
def w_law_t5 : DTS := (wSeq (wSet 12 (mE (wOp pAddB (wC (.int 2)) (wCall [true, false] sp_Ldraw (wCons (wVar 1) (wCons (wCall [true, false] sp_Lone (wCons (wVar 1) (wCons (wOfL (wLst (wCons (wC (.int 9)) (wCons (wOp pPow (wC (.int 10)) (wC (.int 6))) (wCons (wOp pPow (wC (.int 10)) (wC (.int 11))) wNil))))) wNil))) wNil)))))) w_law_s5)
def w_law_s8 : DTS := (wIf (wB (wOp pNe (wFn pReprN (wCons (wCall [] sp_side_number (wCons (wVar 3) (wCons (wVar 4) (wCons (wVar 5) (wCons (wVar 9) wNil))))) wNil)) (wFn pReprN (wCons (wVar 10) wNil)))) (wRet (wC (.bool false))) wNext)
@[simp ↓] theorem w_law_s8_ap (E : DEnds) (δ : DS) : w_law_s8 E δ = (wIf (wB (wOp pNe (wFn pReprN (wCons (wCall [] sp_side_number (wCons (wVar 3) (wCons (wVar 4) (wCons (wVar 5) (wCons (wVar 9) wNil))))) wNil)) (wFn pReprN (wCons (wVar 10) wNil)))) (wRet (wC (.bool false))) wNext) E δ := rfl
def w_law_9 : DTS := (wSeq (wSet 10 (mE (wIfE (wB (wOp pIn (wVar 9) (wVar 6))) (wIndex (wVar 6) (wVar 9)) (wC .none)))) w_law_s8)
def w_law_t6 : DTS := (wSeq (wFor (iSeq (wOfL (wLst (wCons (wOp pMulT (wCall [true, false] sp_Ldraw (wCons (wVar 1) (wCons (wOp pPow (wC (.int 10)) (wC (.int 6))) wNil))) (wOp pPow (wC (.int 10)) (wC (.int 5)))) (wCons (wOp pPow (wC (.int 10)) (wC (.int 12))) (wCons (wOp pSubB (wOp pPow (wC (.int 10)) (wC (.int 12))) (wCall [true, false] sp_Ldraw (wCons (wVar 1) (wCons (wC (.int 99)) wNil)))) wNil)))))) (gN 7) w_law_7) w_law_t5)
def w_law_s9 : DTS := (wIf (wOr (wAnd (wB (wOp pEq (wVar 6) (wOfL (wLst wNil)))) (wB (wOp pIsNot (wVar 8) (wC .none)))) (wAnd (wB (wOp pLt (wVar 7) (wFn pLen (wCons (wVar 6) wNil)))) (wB (wOp pNe (wFn pReprN (wCons (wVar 8) wNil)) (wFn pReprN (wCons (wOp pIx (wVar 6) (wVar 7)) wNil)))))) (wRet (wC (.bool false))) wNext)
@[simp ↓] theorem w_law_s9_ap (E : DEnds) (δ : DS) : w_law_s9 E δ = (wIf (wOr (wAnd (wB (wOp pEq (wVar 6) (wOfL (wLst wNil)))) (wB (wOp pIsNot (wVar 8) (wC .none)))) (wAnd (wB (wOp pLt (wVar 7) (wFn pLen (wCons (wVar 6) wNil)))) (wB (wOp pNe (wFn pReprN (wCons (wVar 8) wNil)) (wFn pReprN (wCons (wOp pIx (wVar 6) (wVar 7)) wNil)))))) (wRet (wC (.bool false))) wNext) E δ := rfl
def w_law_11 : DTS := (wSeq (wSet 8 (mE (wCall [] sp_side_at (wCons (wVar 3) (wCons (wVar 4) (wCons (wVar 5) (wCons (wVar 7) wNil))))))) w_law_s9)
def w_law_t7 : DTS := (wSeq (wFor (iSeq (wOfL (wLst (wCons (wC (.int 1)) (wCons (wC (.int 2)) (wCons (wOp pAddB (wC (.int 1)) (wCall [true, false] sp_Ldraw (wCons (wVar 1) (wCons (wC (.int 100)) wNil)))) (wCons (wOp pAddB (wC (.int 1)) (wCall [true, false] sp_Ldraw (wCons (wVar 1) (wCons (wC (.int 100)) wNil)))) wNil))))))) (gN 9) w_law_9) w_law_t6)
def w_law_s10 : DTS := (wSeq (wFor (iSeq (wOfL (wLst (wCons (wC (.int 0)) (wCons (wC (.int 1)) (wCons (wCall [true, false] sp_Ldraw (wCons (wVar 1) (wCons (wC (.int 40)) wNil))) wNil)))))) (gN 7) w_law_11) w_law_t7)
@[simp ↓] theorem w_law_s10_ap (E : DEnds) (δ : DS) : w_law_s10 E δ = (wSeq (wFor (iSeq (wOfL (wLst (wCons (wC (.int 0)) (wCons (wC (.int 1)) (wCons (wCall [true, false] sp_Ldraw (wCons (wVar 1) (wCons (wC (.int 40)) wNil))) wNil)))))) (gN 7) w_law_11) w_law_t7) E δ := rfl
def w_law_s11 : DTS := (wSeq (wSet 6 (mE (wCall [] sp_Lfitting (wCons (wVar 3) (wCons (wVar 4) (wCons (wVar 5) (wCons (wC (.int 120)) wNil))))))) w_law_s10)
@[simp ↓] theorem w_law_s11_ap (E : DEnds) (δ : DS) : w_law_s11 E δ = (wSeq (wSet 6 (mE (wCall [] sp_Lfitting (wCons (wVar 3) (wCons (wVar 4) (wCons (wVar 5) (wCons (wC (.int 120)) wNil))))))) w_law_s10) E δ := rfl
def w_law_13 : DTS := (wSeq (wAsgG (wCall [true] sp_Ltask (wCons (wVar 1) wNil)) (gT (gsCons (gN 3) (gsCons (gN 4) (gsCons (gN 5) gsNil))))) w_law_s11)
def w_law_t8 : DTS := (wRet (wOp pEq (wOfL (wComp (iRange1 (wCons (wC (.int 4)) wNil)) (gN 2) (wNot (wB (wCall [true] sp_Lone_and_more (wCons (wVar 1) wNil)))) (wC (.int 1)) [2])) (wOfL (wLst wNil))))
def w_law_s12 : DTS := (wSeq (wFor (iRange1 (wCons (wC (.int 7)) wNil)) (gN 2) w_law_13) w_law_t8)
@[simp ↓] theorem w_law_s12_ap (E : DEnds) (δ : DS) : w_law_s12 E δ = (wSeq (wFor (iRange1 (wCons (wC (.int 7)) wNil)) (gN 2) w_law_13) w_law_t8) E δ := rfl
def w_law : DTS := (wSeq (wSet 1 (wCallM [true] sp_Ldeck (wCons (wVar 0) wNil))) w_law_s12)
theorem ln_Lneighbours_right : ∀ cs R, sp_Lneighbours_right cs R → cs.length = 4 := by
  intro cs R h
  unfold sp_Lneighbours_right at h
  repeat (obtain ⟨_, h⟩ := h)
  subst_vars; rfl
theorem ln_Lone_and_more : ∀ cs R, sp_Lone_and_more cs R → cs.length = 1 := by
  intro cs R h
  unfold sp_Lone_and_more at h
  repeat (obtain ⟨_, h⟩ := h)
  subst_vars; rfl
theorem ln_law : ∀ cs R, sp_law cs R → cs.length = 1 := by
  intro cs R h
  unfold sp_law at h
  repeat (obtain ⟨_, h⟩ := h)
  subst_vars; rfl
end K54
set_option Elab.async false
set_option linter.all false
set_option maxRecDepth 100000
set_option maxHeartbeats 4000000
namespace K54
open PySem PySem.Spec PyProof.Rows L2 DL TW
/-- what is asked of neighbours: a pair, a box, the first axis -/
structure Nb (n r t N : Nat) (a b bx : List Int) (ms : List Nat) : Prop where
  pb : PB a b bx
  pm : PM a b ms
  bm : bx = ms.map fun (x : Nat) => (x : Int)
  l0 : 0 < bx.length
  way : wayF a b bx 0 = .sums (n : Int) ((n + 1 : Nat) : Int)
  all : wayN a b ms ms.length 0 = ((N + 1 : Nat) : Int)
  box : BoxV a b ms bx
  rk : rkF a b ms bx ms.length = (N : Int)
theorem rd_Lneighbours_right_3 {n r t N S : Nat} {a b bx : List Int} {ms : List Nat} {E : DEnds} {d4 : PyData} (hS : r * n + t = S) (hn : 2 ≤ n) (hn2 : n ≤ 10 ^ 5) (r1 : 1 ≤ r) (rn : r < n) (tr : t ≤ r) (hN : 2 * (N + 1) = r * (r + 1) + 2 * t) (h : Nb n r t N a b bx ms)
    (k : E.nx [.d (.int (n : Int)), .d (.int (r : Int)), .d (.int (S : Int)), .d (.int (N : Int)), .d d4, .d (prD a b), .d (tI bx)]) :
    w_Lneighbours_right_s1 E [.d (.int (n : Int)), .d (.int (r : Int)), .d (.int (S : Int)), .d (.int (N : Int)), .d d4, .d (prD a b), .d (tI bx)] := by
  have rm := Nat.mul_le_mul (show r ≤ 10 ^ 5 by omega) hn2
  have sm : WaySm (wayF a b bx 0) := by
    rw [h.way]
    refine ⟨by omega, by omega, ?_, by omega⟩
    rw [← Int.natCast_emod, Nat.add_mod_left, Nat.mod_eq_of_lt (by omega)]
    decide
  have fs : ∀ q u : Nat, u < n → (wayF a b bx 0).fits ((q * n + u : Nat) : Int) = decide (u ≤ q) := fun q u hu => by
    rw [h.way]
    exact nb_sum (by omega) hu
  have s1 : 1 ≤ S := by
    have := Nat.mul_le_mul r1 (show 1 ≤ n by omega)
    omega
  have fS := fs r t (by omega)
  rw [hS] at fS
  have em : ∀ l : List Nat, tI (l.map fun (x : Nat) => (x : Int)) = .tuple (lN l) := fun l => by simp [tI, lI, lN]
  have eb : tI bx = .tuple (lN ms) := by rw [h.bm, em]
  have hl : bx.length = ms.length := by rw [h.bm]; simp
  have l4 := h.pm.l1
  have i1 : ∀ {i : Int}, -(10 ^ 30) ≤ i → i ≤ 10 ^ 30 → Shp false 2 600 (.int i) := fun h0 h1 => Shp.mono (n := 0) (w := 209) (Shp.int200 (by omega) (by omega)) (by omega) (by omega)
  have shb : Shp false 2 600 (tI bx) := Shp.mono (Shp.tuple (n := 0) (w := 4 * (100 + 9 + 2)) (shp_ints (k := 100) (by omega) fun x hx => by
    rw [h.bm] at hx
    obtain ⟨y, hy, rfl⟩ := List.mem_map.mp hx
    have := h.pm.pm y hy
    exact log_le (by omega) (by omega))) (by omega) (by omega)
  have two : ∀ {x y : PyData}, Shp false 2 600 x → Shp false 2 600 y → Shp false 3 2000 (.list [x, y]) := fun a b => Shp.mono (Shp.list (ShpL.cons a (ShpL.cons b ShpL.nil))) (by omega) (by omega)
  have N1 : N ≤ 10 ^ 12 := by
    have := Nat.mul_le_mul (show r ≤ 10 ^ 5 by omega) (show r + 1 ≤ 10 ^ 5 + 1 by omega)
    omega
  simp -implicitDefEqProofs -dsimp [w_Lneighbours_right_s1]
  refine ask_of (sp := sp_next_side) ⟨a, b, bx, 0, S, rfl, h.pb, h.l0, sm, s1, by omega, fun e => ?_, fun q q0 q1 q2 => ?_⟩
  · rw [h.way] at e
    cases e
  have eq : q = S := by
    apply Classical.byContradiction
    intro ne
    have := q2 S (Nat.le_refl _) (by omega)
    rw [fS, decide_eq_true tr] at this
    cases this
  subst eq
  (try simp -implicitDefEqProofs -dsimp)
  refine ask_of (sp := sp_count_boxes) ⟨a, b, ms, by rw [← eb], h.pm, ?_⟩
  rw [h.all]
  (try simp -implicitDefEqProofs -dsimp)
  have sh1 : Shp false 3 2000 (.list [.int (q : Int), .int ((N : Int) + 1)]) := two (i1 (by omega) (by omega)) (i1 (by omega) (by omega))
  refine sh1.repr ?_
  refine sh1.repr ?_
  simp -implicitDefEqProofs -dsimp [w_Lneighbours_right_t2]
  refine ask_of (sp := sp_box_number) ⟨a, b, ms, bx, by rw [← eb], h.pm, hl, fun x hx => ?_, fun _ => ?_, fun v => absurd h.box v⟩
  · obtain ⟨i, hi, rfl⟩ := List.mem_iff_getElem.mp hx
    have := h.box.at1 i (by omega)
    have e : gi bx i = bx[i] := by unfold gi; rw [List.getElem?_eq_getElem hi]; rfl
    have p4 := (h.pm.at (show i < ms.length by omega)).2.2.2.2.2
    omega
  rw [h.rk]
  (try simp -implicitDefEqProofs -dsimp)
  refine ask_of (sp := sp_box_at) ⟨a, b, ms, (N : Int), by rw [← eb], h.pm, fun x hx => ?_, by omega, by rw [h.all]; omega, fun cx v rk => ?_⟩
  · obtain ⟨i, hi, rfl⟩ := List.mem_iff_getElem.mp hx
    have := h.box.at1 i hi
    have e4 : ms.getD i 0 = ms[i] := by rw [List.getD_eq_getElem?_getD, List.getElem?_eq_getElem hi]; rfl
    omega
  have ec : cx = bx := rk_inj h.pm v h.box (rk.trans h.rk.symm)
  rw [ec]
  (try simp -implicitDefEqProofs -dsimp)
  have sh2 : Shp false 3 2000 (.list [.int (N : Int), tI bx]) := two (i1 (by omega) (by omega)) shb
  refine sh2.repr ?_
  refine sh2.repr ?_
  simp -implicitDefEqProofs -dsimp [w_Lneighbours_right_t1]
  by_cases c : (r : Int) < (n : Int) - 1
  · rw [if_pos c]
    (try simp -implicitDefEqProofs -dsimp)
    refine ⟨cm_l (by omega), ?_⟩
    have rn2 : r + 1 < n := by omega
    obtain ⟨Z, hZ⟩ : ∃ Z, (r + 1) * n = Z := ⟨_, rfl⟩
    have hZ2 : r * n + n = Z := by rw [← hZ, Nat.add_mul, Nat.one_mul]
    have eM : (r : Int) * (n : Int) + (r : Int) + 1 = ((r * n + r + 1 : Nat) : Int) := by push_cast; rfl
    have eZ : ((r : Int) + 1) * (n : Int) = (Z : Int) := by rw [← hZ]; push_cast; rfl
    have fZ : (wayF a b bx 0).fits (Z : Int) = true := by
      have := fs (r + 1) 0 (by omega)
      rw [Nat.add_zero, hZ] at this
      rw [this]
      simp
    rw [eM]
    refine ask_of (sp := sp_next_side) ⟨a, b, bx, 0, r * n + r + 1, rfl, h.pb, h.l0, sm, by omega, by omega, fun e => ?_, fun x x0 x1 x2 => ?_⟩
    · rw [h.way] at e
      cases e
    have ex : x = Z := by
      have l1 : x ≤ Z := by
        apply Classical.byContradiction
        intro ne
        have := x2 Z (by omega) (by omega)
        rw [fZ] at this
        cases this
      apply Classical.byContradiction
      intro ne
      obtain ⟨u, hu⟩ : ∃ u, x = r * n + u := ⟨x - r * n, by omega⟩
      have := fs r u (by omega)
      rw [← hu, x1] at this
      have := of_decide_eq_true this.symm
      omega
    subst ex
    have zz := Nat.mul_le_mul (show r + 1 ≤ 10 ^ 5 by omega) hn2
    (try simp -implicitDefEqProofs -dsimp)
    refine (i1 (i := (x : Int)) (by omega) (by omega)).repr ?_
    refine ⟨cm_l (by omega), ?_⟩
    rw [eZ]
    refine (i1 (i := (x : Int)) (by omega) (by omega)).repr ?_
    (try simp -implicitDefEqProofs -dsimp)
    exact k
  · rw [if_neg c]
    exact k
theorem nb_cntS {n r t N S : Nat} (hS : r * n + t = S) (hn : 2 ≤ n) (rn : r < n) (tr : t ≤ r) (hN : 2 * (N + 1) = r * (r + 1) + 2 * t) : cntP (fun s => isSum (n : Int) ((n + 1 : Nat) : Int) (s : Int)) S = N + 1 := by
  have := nb_cnt (show 1 ≤ n by omega) r t rn (by omega)
  rw [hS] at this
  omega
theorem beh_0 (c : Nat) : behF 0 c = c := by
  unfold behF
  rw [if_pos (.inl rfl), Nat.zero_add]
theorem beh_n0 (st : Nat) : behF st 0 = st := by
  unfold behF
  rw [if_pos (.inr rfl), Nat.add_zero]
theorem cls_nb {n r t S : Nat} (hS : r * n + t = S) (hn : 2 ≤ n) (rn : r < n) (tr : t ≤ r) : clsF (n : Int) ((n + 1 : Nat) : Int) (S : Int) ≠ 4 := by
  have f := nb_sum (show 1 ≤ n by omega) (q := r) (t := t) (by omega)
  rw [hS, decide_eq_true tr] at f
  unfold clsF
  split
  · split <;> omega
  · split
    · omega
    · first | omega | (rw [if_pos f]; omega)
theorem wq_nb {n r t N S : Nat} (hS : r * n + t = S) (hn : 2 ≤ n) (rn : r < n) (tr : t ≤ r) (hN : 2 * (N + 1) = r * (r + 1) + 2 * t) {qs : List Quad} (h : ∀ c, c ≤ 3 → wq qs c = 1) : wq (quadF (n : Int) ((n + 1 : Nat) : Int) S :: qs) 0 = ((N + 1 : Nat) : Int) := by
  have e := (num_dvd (l := n) (h := n + 1) (by omega) (by omega) S).2.2.2
  rw [nb_cntS hS hn rn tr hN] at e
  unfold wq quadF
  rw [beh_0, beh_0, beh_0, beh_0, h 0 (by omega), h 1 (by omega), h 2 (by omega), h 3 (by omega), e]
  omega
theorem nb_one {n r t N S : Nat} (hS : r * n + t = S) (hn : 2 ≤ n) (hn2 : n ≤ 10 ^ 5) (r1 : 1 ≤ r) (rn : r < n) (tr : t ≤ r) (hN : 2 * (N + 1) = r * (r + 1) + 2 * t) : Nb n r t N [(n : Int)] [(n : Int) + 1] [(S : Int)] [S] := by
  have rm := Nat.mul_le_mul (show r ≤ 10 ^ 5 by omega) hn2
  have s1 := Nat.mul_le_mul r1 (show 1 ≤ n by omega)
  have B := BIG_ge
  have one : ∀ {x : Int} {P : Int → Prop}, P x → ∀ z ∈ [x], P z := fun h z hz => by rw [List.mem_singleton.mp hz]; exact h
  have pm : PM [(n : Int)] [(n : Int) + 1] [S] := ⟨rfl, rfl, by simp, one (by omega), one (by omega), fun z hz => by rw [List.mem_singleton.mp hz]; omega⟩
  have all : wayN [(n : Int)] [(n : Int) + 1] [S] 1 0 = ((N + 1 : Nat) : Int) := by
    have := way_all pm
    refine this.trans ?_
    exact wq_nb hS hn rn tr hN (qs := []) fun c hc => if_neg (by omega)
  have cl := cls_nb hS hn rn tr
  have up := way_upto pm (ax := 0) (by simp) (st := 0) (by omega)
  have su := upto_succ pm (ax := 0) (by simp) 0 (S - 1)
  have e1 : S - 1 + 1 = S := by omega
  rw [e1] at su
  have w1 : wayN [(n : Int)] [(n : Int) + 1] [S] 0 (behF 0 (clsF (n : Int) ((n + 1 : Nat) : Int) (S : Int))) = 1 := by
    rw [beh_0]
    exact if_neg cl
  refine ⟨⟨rfl, rfl, by simp, by simp, one (Pos.of (by omega) (by omega)), one (Pos.of (by omega) (by omega)), one (Pos.of (by omega) (by omega))⟩, pm, rfl, by simp, ?_, all, ⟨rfl, fun i hi => ?_, ?_⟩, ?_⟩
  · rw [way_one1]
    exact (nb_way hn).1
  · have : i = 0 := by simpa using hi
    subst this
    show 1 ≤ (S : Int) ∧ (S : Int) ≤ (S : Int)
    omega
  · show behF 0 (clsF (n : Int) ((n + 1 : Nat) : Int) (S : Int)) ≠ 4
    rw [beh_0]
    exact cl
  · show 0 + uptoN [(n : Int)] [(n : Int) + 1] [S] 0 0 ((S : Int) - 1).toNat = (N : Int)
    rw [show ((S : Int) - 1).toNat = S - 1 by omega]
    have u2 : wayN [(n : Int)] [(n : Int) + 1] [S] 1 0 = uptoN [(n : Int)] [(n : Int) + 1] [S] 0 0 S := up
    have s2 : uptoN [(n : Int)] [(n : Int) + 1] [S] 0 0 S = uptoN [(n : Int)] [(n : Int) + 1] [S] 0 0 (S - 1) + wayN [(n : Int)] [(n : Int) + 1] [S] 0 (behF 0 (clsF (n : Int) ((n + 1 : Nat) : Int) (S : Int))) := su
    rw [w1] at s2
    rw [all] at u2
    omega
theorem nb_two {n r t N S : Nat} (hS : r * n + t = S) (hn : 2 ≤ n) (hn2 : n ≤ 10 ^ 5) (r1 : 1 ≤ r) (rn : r < n) (tr : t ≤ r) (hN : 2 * (N + 1) = r * (r + 1) + 2 * t) : Nb n r t N [(n : Int), 1] [(n : Int) + 1, 1] [(S : Int), 1] [S, 1] := by
  have rm := Nat.mul_le_mul (show r ≤ 10 ^ 5 by omega) hn2
  have s1 := Nat.mul_le_mul r1 (show 1 ≤ n by omega)
  have B := BIG_ge
  have two : ∀ {x y : Int} {P : Int → Prop}, P x → P y → ∀ z ∈ [x, y], P z := fun h1 h2 z hz => by
    rcases List.mem_cons.mp hz with rfl | hz
    · exact h1
    · rw [List.mem_singleton.mp hz]; exact h2
  have pm : PM [(n : Int), 1] [(n : Int) + 1, 1] [S, 1] := ⟨rfl, rfl, by simp, two (by omega) (by omega), two (by omega) (by omega), fun z hz => by
    rcases List.mem_cons.mp hz with rfl | hz
    · omega
    · rw [List.mem_singleton.mp hz]; omega⟩
  have q1 : ∀ c, c ≤ 3 → wq [quadF 1 1 1] c = 1 := fun c hc => by
    have n0 : numC 1 1 0 1 = 1 := by decide
    have n1 : numC 1 1 1 1 = 0 := by decide
    have n2 : numC 1 1 2 1 = 0 := by decide
    have n3 : numC 1 1 3 1 = 0 := by decide
    unfold wq quadF
    rw [n0, n1, n2, n3, beh_n0]
    have : wq [] c = 1 := if_neg (by omega)
    rw [this]
    simp
  have all : wayN [(n : Int), 1] [(n : Int) + 1, 1] [S, 1] 2 0 = ((N + 1 : Nat) : Int) := by
    have := way_all pm
    refine this.trans ?_
    exact wq_nb hS hn rn tr hN (qs := [quadF 1 1 1]) q1
  have cl := cls_nb hS hn rn tr
  have c1 : clsF 1 1 1 = 0 := by decide
  have up := way_upto pm (ax := 0) (by simp) (st := 0) (by omega)
  have su := upto_succ pm (ax := 0) (by simp) 0 (S - 1)
  have e1 : S - 1 + 1 = S := by omega
  rw [e1] at su
  have w1 : wayN [(n : Int), 1] [(n : Int) + 1, 1] [S, 1] 1 (behF 0 (clsF (n : Int) ((n + 1 : Nat) : Int) (S : Int))) = 1 := by
    rw [beh_0]
    have := way_quads pm 1 (clsF (n : Int) ((n + 1 : Nat) : Int) (S : Int)) (by simp)
    refine this.trans ?_
    have le := cls_le (n : Int) ((n + 1 : Nat) : Int) (S : Int)
    exact q1 _ (by omega)
  refine ⟨⟨rfl, rfl, by simp, by simp, two (Pos.of (by omega) (by omega)) (Pos.of (by omega) (by omega)), two (Pos.of (by omega) (by omega)) (Pos.of (by omega) (by omega)), two (Pos.of (by omega) (by omega)) (Pos.of (by omega) (by omega))⟩, pm, rfl, by simp, ?_, all, ⟨rfl, fun i hi => ?_, ?_⟩, ?_⟩
  · have one : ∀ {x : Int} {P : Int → Prop}, P x → ∀ z ∈ [x], P z := fun h z hz => by rw [List.mem_singleton.mp hz]; exact h
    have p1 : PB [(n : Int)] [(n : Int) + 1] [(S : Int)] := ⟨rfl, rfl, by simp, by simp, one (Pos.of (by omega) (by omega)), one (Pos.of (by omega) (by omega)), one (Pos.of (by omega) (by omega))⟩
    have p2 : PB [(n : Int), 1] [(n : Int) + 1, 1] [(S : Int), 1] := ⟨rfl, rfl, by simp, by simp, two (Pos.of (by omega) (by omega)) (Pos.of (by omega) (by omega)), two (Pos.of (by omega) (by omega)) (Pos.of (by omega) (by omega)), two (Pos.of (by omega) (by omega)) (Pos.of (by omega) (by omega))⟩
    have := way_more (f := 1) (g := 1) (m := 1) (ax := 0) p1 p2 (by simp) (by decide) (by decide)
    refine this.trans ?_
    rw [way_one1]
    exact (nb_way hn).1
  · have : i = 0 ∨ i = 1 := by
      have : i < 2 := hi
      omega
    rcases this with rfl | rfl
    · show 1 ≤ (S : Int) ∧ (S : Int) ≤ (S : Int)
      omega
    · show (1 : Int) ≤ 1 ∧ (1 : Int) ≤ ((1 : Nat) : Int)
      omega
  · show behF (behF 0 (clsF (n : Int) ((n + 1 : Nat) : Int) (S : Int))) (clsF 1 1 1) ≠ 4
    rw [beh_0, c1, beh_n0]
    exact cl
  · show 0 + uptoN [(n : Int), 1] [(n : Int) + 1, 1] [S, 1] 0 0 ((S : Int) - 1).toNat + uptoN [(n : Int), 1] [(n : Int) + 1, 1] [S, 1] 1 (stF [(n : Int), 1] [(n : Int) + 1, 1] [(S : Int), 1] 1) 0 = (N : Int)
    rw [upto_zero pm (by simp), show ((S : Int) - 1).toNat = S - 1 by omega]
    have u2 : wayN [(n : Int), 1] [(n : Int) + 1, 1] [S, 1] 2 0 = uptoN [(n : Int), 1] [(n : Int) + 1, 1] [S, 1] 0 0 S := up
    have s2 : uptoN [(n : Int), 1] [(n : Int) + 1, 1] [S, 1] 0 0 S = uptoN [(n : Int), 1] [(n : Int) + 1, 1] [S, 1] 0 0 (S - 1) + wayN [(n : Int), 1] [(n : Int) + 1, 1] [S, 1] 1 (behF 0 (clsF (n : Int) ((n + 1 : Nat) : Int) (S : Int))) := su
    rw [w1] at s2
    rw [all] at u2
    omega
theorem rd_Lneighbours_right : ∀ cs R, sp_Lneighbours_right cs R → w_Lneighbours_right (endsOf cs R) (start0 7 cs) := by
  rintro _ R ⟨n, r, t, N, rfl, hn, hn2, r1, rn, tr, hN, hR⟩
  obtain ⟨S, hS⟩ : ∃ S, r * n + t = S := ⟨_, rfl⟩
  rw [hS] at hR ⊢
  simp -implicitDefEqProofs -dsimp [w_Lneighbours_right]
  refine for_stay (fun δ => ∃ c4 c5 c6, δ = [.d (.int (n : Int)), .d (.int (r : Int)), .d (.int (S : Int)), .d (.int (N : Int)), c4, c5, c6]) ⟨_, _, _, rfl⟩ ?_ ?_
  · rintro δ ⟨c4, c5, c6, rfl⟩
    (try simp -implicitDefEqProofs -dsimp)
    exact hR
  · rintro y hy δ ⟨c4, c5, c6, rfl⟩ K B T hK
    rcases List.mem_cons.mp hy with rfl | hy
    · simp -implicitDefEqProofs -dsimp [w_Lneighbours_right_3, -w_Lneighbours_right_s1_ap]
      exact rd_Lneighbours_right_3 hS hn hn2 r1 rn tr hN (nb_one hS hn hn2 r1 rn tr hN) (hK _ ⟨_, _, _, rfl⟩)
    · rw [List.mem_singleton.mp hy]
      simp -implicitDefEqProofs -dsimp [w_Lneighbours_right_3, -w_Lneighbours_right_s1_ap]
      exact rd_Lneighbours_right_3 hS hn hn2 r1 rn tr hN (nb_two hS hn hn2 r1 rn tr hN) (hK _ ⟨_, _, _, rfl⟩)
theorem rd_Lone_and_more : ∀ cs R, sp_Lone_and_more cs R → w_Lone_and_more (endsOf cs R) (start0 5 cs) := by
  rintro _ R ⟨a, b, c, rfl, hR⟩
  have e4 : (10 : Int) ^ Int.toNat 4 = 10000 := rfl
  simp -implicitDefEqProofs -dsimp [w_Lone_and_more, CPow, e4]
  refine ⟨cm_l (by omega), ask_draw (by omega) (by omega) fun u u0 u1 => ?_⟩
  obtain ⟨n, en⟩ : ∃ n : Nat, (n : Int) = 2 + u := ⟨(2 + u).toNat, by omega⟩
  simp -implicitDefEqProofs -dsimp [w_Lone_and_more_s4]
  rw [← en]
  refine ask_draw (by omega) (by omega) fun v v0 v1 => ?_
  obtain ⟨r, er⟩ : ∃ r : Nat, (r : Int) = 1 + v := ⟨(1 + v).toNat, by omega⟩
  simp -implicitDefEqProofs -dsimp [w_Lone_and_more_s3]
  rw [← er]
  refine ask_draw (by omega) (by omega) fun t' t0 t1 => ?_
  obtain ⟨t, rfl⟩ : ∃ t : Nat, t' = (t : Int) := ⟨t'.toNat, by omega⟩
  simp -implicitDefEqProofs -dsimp [w_Lone_and_more_s2]
  have ev : (r * (r + 1)) % 2 = 0 := by
    rcases Nat.mod_two_eq_zero_or_one r with h | h <;> simp [Nat.mul_mod, Nat.add_mod, h]
  obtain ⟨P, hP⟩ : ∃ P, r * (r + 1) = P := ⟨_, rfl⟩
  rw [hP] at ev
  have p1 := Nat.mul_le_mul (show 1 ≤ r by omega) (show 1 ≤ r + 1 by omega)
  have p2 := Nat.mul_le_mul (show r ≤ 50001 by omega) (show r + 1 ≤ 50001 by omega)
  have eP : (r : Int) * ((r : Int) + 1) = (P : Int) := by rw [← hP]; push_cast; rfl
  obtain ⟨N, hN⟩ : ∃ N : Nat, (N : Int) = (P : Int) / 2 + (t : Int) - 1 := ⟨P / 2 + t - 1, by omega⟩
  have hN2 : 2 * (N + 1) = r * (r + 1) + 2 * t := by omega
  obtain ⟨S, hS⟩ : ∃ S, r * n + t = S := ⟨_, rfl⟩
  have eS : (r : Int) * (n : Int) + (t : Int) = (S : Int) := by rw [← hS]; push_cast; rfl
  have rm := Nat.mul_le_mul (show r ≤ 10 ^ 5 by omega) (show n ≤ 10 ^ 5 by omega)
  have s1 := Nat.mul_le_mul (show 1 ≤ r by omega) (show 1 ≤ n by omega)
  rw [eP, ← hN]
  have i1 : ∀ {i : Int}, -(10 ^ 30) ≤ i → i ≤ 10 ^ 30 → Shp false 2 600 (.int i) := fun h0 h1 => Shp.mono (n := 0) (w := 209) (Shp.int200 (by omega) (by omega)) (by omega) (by omega)
  have B := BIG_ge
  have one : ∀ {x : Int} {P : Int → Prop}, P x → ∀ z ∈ [x], P z := fun h z hz => by rw [List.mem_singleton.mp hz]; exact h
  have pb1 : PB [(n : Int)] [(n : Int) + 1] [1] := ⟨rfl, rfl, by simp, by simp, one (Pos.of (by omega) (by omega)), one (Pos.of (by omega) (by omega)), one (Pos.of (by omega) (by omega))⟩
  have w1 : wayF [(n : Int)] [(n : Int) + 1] [1] 0 = .sums (n : Int) ((n + 1 : Nat) : Int) := by
    rw [way_one1]
    exact (nb_way (by omega)).1
  have w2 : wayF [(n : Int) + 1] [(n : Int)] [1] 0 = .sums (n : Int) ((n + 1 : Nat) : Int) := by
    rw [way_one1]
    exact (nb_way (by omega)).2
  have sm : WaySm (.sums (n : Int) ((n + 1 : Nat) : Int)) := by
    refine ⟨by omega, by omega, ?_, by omega⟩
    rw [← Int.natCast_emod, Nat.add_mod_left, Nat.mod_eq_of_lt (by omega)]
    decide
  have fS := nb_sum (show 1 ≤ n by omega) (q := r) (t := t) (by omega)
  rw [hS, decide_eq_true (by omega)] at fS
  have cS := nb_cntS hS (by omega) (by omega) (by omega) hN2
  have atS : AtIs (.sums (n : Int) ((n + 1 : Nat) : Int)) N S := ⟨by omega, fS, cS⟩
  refine ⟨cm_l (by omega), by decide, ask_of (sp := sp_side_at) ⟨[(n : Int)], [(n : Int) + 1], [1], 0, N, rfl, pb1, by simp, by rw [w1]; exact sm, by omega, fun e => ?_, fun x x1 x2 x3 => ?_⟩⟩
  · rw [w1] at e
    cases e
  rw [w1] at x2 x3
  have ex : x = S := AtIs.uni ⟨x1, x2, x3⟩ atS
  subst ex
  (try simp -implicitDefEqProofs -dsimp)
  refine (i1 (i := (x : Int)) (by omega) (by omega)).repr ?_
  refine ⟨cm_l (by omega), ?_⟩
  rw [eS]
  refine (i1 (i := (x : Int)) (by omega) (by omega)).repr ?_
  simp -implicitDefEqProofs -dsimp [w_Lone_and_more_t2]
  refine ⟨cm_l (by omega), ?_⟩
  obtain ⟨s, es, f2, c2⟩ := atS.pred
  rw [eS]
  refine ask_of (sp := sp_side_number) ⟨[(n : Int) + 1], [(n : Int)], [1], 0, s, by rw [es]; rfl, pb1.swap, by simp, by rw [w2]; exact sm_bd sm, by omega, ?_⟩
  rw [w2, if_pos f2, c2]
  (try simp -implicitDefEqProofs -dsimp)
  refine (i1 (i := (N : Int)) (by omega) (by omega)).repr ?_
  refine (i1 (i := (N : Int)) (by omega) (by omega)).repr ?_
  simp -implicitDefEqProofs -dsimp [w_Lone_and_more_t1]
  refine ⟨cm_l (by omega), ?_⟩
  rw [eS]
  refine ask_of (sp := sp_Lneighbours_right) ⟨n, r, t, N, by rw [hS], by omega, by omega, by omega, by omega, by omega, hN2, ?_⟩
  (try simp -implicitDefEqProofs -dsimp)
  exact hR
theorem ix_int : ∀ {F : List Int} {y : Int}, y ∈ F → ∃ j, ixOf (lI F) (.int y) = some j ∧ F[j]? = some y
  | [], _, h => by cases h
  | x :: F, y, h => by
    unfold ixOf lI
    rw [List.map_cons, List.findIdx?_cons]
    by_cases e : x = y
    · subst e
      exact ⟨0, by simp [PyData.eqv], rfl⟩
    · obtain ⟨j, h1, h2⟩ := ix_int (F := F) (y := y) (by simpa [Ne.symm e] using h)
      refine ⟨j + 1, ?_, by simpa using h2⟩
      have ne : PyData.eqv (.int x) (.int y) = false := by
        simp only [PyData.eqv, beq_eq_false_iff_ne, ne_eq]
        exact e
      rw [ne]
      unfold ixOf lI at h1
      simp [h1]
theorem ex_int {F : List Int} {y : Int} : (∃ x, x ∈ F ∧ PyData.eqv (.int x) (.int y) = true) ↔ y ∈ F := by
  constructor
  · rintro ⟨x, hx, e⟩
    simp only [PyData.eqv, beq_iff_eq] at e
    exact e ▸ hx
  · exact fun h => ⟨y, h, by simp [PyData.eqv]⟩
theorem eN {F : List Int} (h : F ≠ []) : PyData.eqvAll (lI F) [] = false := by
  cases F with
  | nil => exact absurd rfl h
  | cons x F => rfl
theorem i1 {i : Int} (h0 : -(10 ^ 30) ≤ i) (h1 : i ≤ 10 ^ 30) : Shp false 2 600 (.int i) := Shp.mono (n := 0) (w := 209) (Shp.int200 (by omega) (by omega)) (by omega) (by omega)
theorem no : Shp false 2 600 .none := Shp.mono (n := 0) (w := 8) Shp.none (by omega) (by omega)
theorem shI {x y : PyData} (a : Shp false 2 600 x) (b : Shp false 2 600 y) : Shp false 3 2000 (.list [x, y]) := Shp.mono (Shp.list (ShpL.cons a (ShpL.cons b ShpL.nil))) (by omega) (by omega)
theorem rd_law_t5 {E : DEnds} {c0 c2 c7 c8 c9 c10 c11 c12 c13 c14 : Cell} {a1 a2 a3 : Addr} {ax : Nat} {p q bx F : List Int} {w : Way} (pb : PB p q bx) (hx : ax < bx.length) (hw : wayF p q bx ax = w) (w7 : Way7 w) (fn : F = [] ↔ w = .non) (hp : In 7 p) (hq : In 7 q) (hb : In (10 ^ 6) bx)
    (hE : ∀ c2 c3 c4 c5 c6 c7 c8 c9 c10 c11 c12 c13 c14, E.nx [c0, .dk a1 a2 a3, c2, c3, c4, c5, c6, c7, c8, c9, c10, c11, c12, c13, c14]) :
    w_law_t5 E [c0, .dk a1 a2 a3, c2, .d (prD p q), .d (tI bx), .d (.int (ax : Nat)), .d (.list (lI F)), c7, c8, c9, c10, c11, c12, c13, c14] := by
  have e6 : (10 : Int) ^ Int.toNat 6 = 1000000 := rfl
  have e5 : (10 : Int) ^ Int.toNat 5 = 100000 := rfl
  have e11 : (10 : Int) ^ Int.toNat 11 = 100000000000 := rfl
  have e12 : (10 : Int) ^ Int.toNat 12 = 1000000000000 := rfl
  simp -implicitDefEqProofs -dsimp [w_law_t5, CPow, e6, e11]
  refine ask_of (sp := sp_Lone) ⟨a1, a2, a3, _, _, rfl, rfl, by simp, by simp, fun z hz => ?_⟩
  have hz : ∃ m : Int, z = .int m ∧ 9 ≤ m ∧ m ≤ 10 ^ 11 := by
    simp only [List.mem_cons, List.not_mem_nil, or_false] at hz
    rcases hz with rfl | rfl | rfl <;> exact ⟨_, rfl, by omega, by omega⟩
  obtain ⟨m, rfl, m0, m1⟩ := hz
  (try simp -implicitDefEqProofs -dsimp)
  refine ask_draw (by omega) (by omega) fun d d0 d1 => ?_
  obtain ⟨T, eT⟩ : ∃ T : Nat, (T : Int) = 2 + d := ⟨(2 + d).toNat, by omega⟩
  have la := pb.la
  have lb := pb.lb
  have l1 := pb.l1
  have gp := hp _ (gi_mem (show ax < p.length by omega))
  have gq := hq _ (gi_mem (show ax < q.length by omega))
  (try simp -implicitDefEqProofs -dsimp)
  rw [← eT]
  simp -implicitDefEqProofs -dsimp [w_law_s5, com_cons, com_nil, gi_at (show ax < p.length by omega), gi_at (show ax < q.length by omega)]
  have u1 := Int.mul_le_mul gp.2 (show (T : Int) ≤ 10 ^ 11 + 1 by omega) (by omega) (by omega)
  have u2 := Int.mul_le_mul gp.1 (show 1 ≤ (T : Int) by omega) (by omega) (by omega)
  have u3 := Int.mul_le_mul gq.2 (show (T : Int) ≤ 10 ^ 11 + 1 by omega) (by omega) (by omega)
  have u4 := Int.mul_le_mul gq.1 (show 1 ≤ (T : Int) by omega) (by omega) (by omega)
  refine ⟨cm_l (by omega), ask_with (by omega) (by omega) ?_⟩
  simp -implicitDefEqProofs -dsimp [com_cons, com_nil, gi_at (show ax < q.length by omega)]
  refine ⟨cm_l (by omega), ask_with (by omega) (by omega) ?_⟩
  have ws := way_scale pb hx (t := (T : Int)) (by omega)
  have B := BIG_ge
  have pb3 : PB (p.set ax (gi p ax * (T : Int))) (q.set ax (gi q ax * (T : Int))) bx := ⟨by simpa using pb.la, by simpa using pb.lb, pb.l0, pb.l1, fun x hx => by
    rcases List.mem_or_eq_of_mem_set hx with q | q
    · exact pb.pa x q
    · rw [q]; exact Pos.of (by omega) (by omega), fun x hx => by
    rcases List.mem_or_eq_of_mem_set hx with q | q
    · exact pb.pb x q
    · rw [q]; exact Pos.of (by omega) (by omega), pb.px⟩
  revert ws pb3
  generalize p.set ax (gi p ax * (T : Int)) = p'
  generalize q.set ax (gi q ax * (T : Int)) = q'
  intro ws pb3
  rw [hw] at ws
  simp -implicitDefEqProofs -dsimp [com_nil, w_law_s4, CPow, e6]
  have ep : PyData.tuple [tI p', tI q'] = prD p' q' := rfl
  rw [ep]
  refine ask_draw (by omega) (by omega) fun v v0 v1 => ?_
  simp -implicitDefEqProofs -dsimp [CPow, e5, e12]
  refine ⟨cm_l (by omega), for_stay (fun δ => ∃ c7 c8 c10 c14, δ = [c0, .dk a1 a2 a3, c2, .d (prD p q), .d (tI bx), .d (.int (ax : Nat)), .d (.list (lI F)), c7, c8, c9, c10, c11, .d (.int (T : Int)), .d (prD p' q'), c14]) ⟨_, _, _, _, rfl⟩ ?_ ?_⟩
  · rintro δ ⟨c7, c8, c10, c14, rfl⟩
    simp -implicitDefEqProofs -dsimp [w_law_t2, CPow, e12]
    refine ask_draw (by omega) (by omega) fun v v0 v1 => ?_
    obtain ⟨s, es⟩ : ∃ s : Nat, ((s : Int) + 1) = 1000000000000 - v := ⟨(1000000000000 - v - 1).toNat, by omega⟩
    simp -implicitDefEqProofs -dsimp [w_law_s2]
    rw [← es]
    refine ask_of (sp := sp_side_number) ⟨p, q, bx, ax, s, rfl, pb, hx, by rw [hw]; exact sm_bd (way7_sm w7), by omega, ?_⟩
    have wf := way_fits (s := ((s + 1 : Nat) : Int)) pb hx (by omega)
    have es2 : ((s + 1 : Nat) : Int) = (s : Int) + 1 := rfl
    have cl : cntW w s ≤ s := by
      have : ∀ (p : Nat → Bool) (x : Nat), cntP p x ≤ x := fun p x => by
        induction x with
        | zero => exact Nat.le_refl _
        | succ x ih =>
          rw [cnt_succ]
          split <;> omega
      exact this _ _
    rw [hw] at wf ⊢
    have far : ∀ {K2 : PyData → List Cell → Prop} (y : Int), y = (s : Int) + 1 → K2 (.bool (w.fits ((s + 1 : Nat) : Int))) [.d (prD p q), .d (tI (bx.set ax y))] → sp_Lfar_filled [.d (prD p q), .d (tI (bx.set ax y))] K2 := fun {K2} y ey k => by
      refine ⟨p, q, _, rfl, pb.side (Pos.of (by omega) (by omega)), fun x hx => by have := hp x hx; omega, fun x hx => by have := hq x hx; omega, fun x hx => ?_, ?_⟩
      · rcases List.mem_or_eq_of_mem_set hx with q | q
        · have := hb x q; omega
        · rw [q]; omega
      · rw [ey, ← es2, wf]
        rw [ey] at k
        exact k
    by_cases c : w.fits ((s + 1 : Nat) : Int) = true
    · rw [if_pos c]
      have at1 := at_of c
      simp -implicitDefEqProofs -dsimp [w_law_s1]
      refine ask_with hx (by omega) ?_
      (try simp -implicitDefEqProofs -dsimp)
      refine ask_of (sp := sp_Lfar_filled) (far _ es.symm ?_)
      rw [c]
      simp -implicitDefEqProofs -dsimp [w_law_t1, isNone]
      refine ask_of (sp := sp_side_at) ⟨p, q, bx, ax, cntW w s, rfl, pb, hx, by rw [hw]; exact way7_sm w7, by omega, fun e => ?_, fun x x1 x2 x3 => ?_⟩
      · rw [hw] at e
        subst e
        cases c
      · rw [hw] at x2 x3
        have ex : x = s + 1 := AtIs.uni ⟨x1, x2, x3⟩ at1
        have ex2 : (x : Int) = 1000000000000 - v := by omega
        rw [ex2]
        (try simp -implicitDefEqProofs -dsimp)
        refine (i1 (i := 1000000000000 - v) (by omega) (by omega)).repr ?_
        refine (i1 (i := 1000000000000 - v) (by omega) (by omega)).repr ?_
        (try simp -implicitDefEqProofs -dsimp)
        exact hE _ _ _ _ _ _ _ _ _ _ _ _ _
    · rw [if_neg c]
      have c' : w.fits ((s + 1 : Nat) : Int) = false := by simpa using c
      simp -implicitDefEqProofs -dsimp [w_law_s1]
      refine ask_with hx (by omega) ?_
      (try simp -implicitDefEqProofs -dsimp)
      refine ask_of (sp := sp_Lfar_filled) (far _ es.symm ?_)
      rw [c']
      simp -implicitDefEqProofs -dsimp [w_law_t1, isNone]
      exact hE _ _ _ _ _ _ _ _ _ _ _ _ _
  · rintro y hy δ ⟨c7, c8, c10, c14, rfl⟩ K' B' T' hK'
    have hy : ∃ N : Nat, y = .int (N : Int) ∧ N ≤ 10 ^ 12 := by
      simp only [List.mem_cons, List.not_mem_nil, or_false] at hy
      have nc : ∀ x : Int, 0 ≤ x → x ≤ 10 ^ 12 → ∃ N : Nat, PyData.int x = .int (N : Int) ∧ N ≤ 10 ^ 12 := fun x x0 x1 => ⟨x.toNat, by rw [Int.toNat_of_nonneg x0], by omega⟩
      rcases hy with rfl | rfl | rfl | rfl <;> exact nc _ (by omega) (by omega)
    obtain ⟨N, rfl, hN⟩ := hy
    simp -implicitDefEqProofs -dsimp [w_law_2]
    refine ask_of (sp := sp_side_at) ⟨p', q', bx, ax, N, rfl, pb3, hx, by rw [ws]; exact way7_sc w7 (by omega) (by omega), by omega, fun e => ?_, fun y y1 y2 y3 => ?_⟩
    · rw [ws] at e
      have e : w = .non := by
        cases w with
        | non => rfl
        | steps k => cases e
        | sums l h => cases e
      subst e
      (try simp -implicitDefEqProofs -dsimp)
      refine ask_of (sp := sp_side_at) ⟨p, q, bx, ax, N, rfl, pb, hx, by rw [hw]; exact way7_sm w7, by omega, fun e => ?_, fun x x1 x2 x3 => ?_⟩
      · simp -implicitDefEqProofs -dsimp [w_law_s3]
        refine no.repr ?_
        refine no.repr ?_
        (try simp -implicitDefEqProofs -dsimp)
        exact hK' _ ⟨_, _, _, _, rfl⟩
      · rw [hw] at x2
        cases x2
    · rw [ws] at y2 y3
      obtain ⟨u, rfl, atu⟩ := AtIs.scaled w7 (show 1 ≤ T by omega) ⟨y1, y2, y3⟩
      have ul := atu.le w7
      (try simp -implicitDefEqProofs -dsimp)
      refine ask_of (sp := sp_side_at) ⟨p, q, bx, ax, N, rfl, pb, hx, by rw [hw]; exact way7_sm w7, by omega, fun e => ?_, fun x x1 x2 x3 => ?_⟩
      · rw [hw] at e
        subst e
        cases atu.fit
      · rw [hw] at x2 x3
        have ex : x = u := AtIs.uni ⟨x1, x2, x3⟩ atu
        subst ex
        have mm := Int.mul_le_mul (show (T : Int) ≤ 10 ^ 11 + 1 by omega) (show (x : Int) ≤ 49 * (10 ^ 12 + 1) by omega) (by omega) (by omega)
        have m0 := Int.mul_nonneg (show 0 ≤ (T : Int) by omega) (show 0 ≤ (x : Int) by omega)
        simp -implicitDefEqProofs -dsimp [w_law_s3]
        refine (i1 (i := (T : Int) * (x : Int)) (by omega) (by omega)).repr ?_
        rw [Int.mul_comm (x : Int) (T : Int)]
        refine ⟨mul_big (by omega) (by omega) (by omega) (by omega), ?_⟩
        refine (i1 (i := (T : Int) * (x : Int)) (by omega) (by omega)).repr ?_
        rw [if_pos rfl]
        exact hK' _ ⟨_, _, _, _, rfl⟩
theorem rd_law_t6 {E : DEnds} {c0 c2 c7 c8 c9 c10 c11 c12 c13 c14 : Cell} {a1 a2 a3 : Addr} {ax : Nat} {p q bx F : List Int} {w : Way} (pb : PB p q bx) (hx : ax < bx.length) (hw : wayF p q bx ax = w) (w7 : Way7 w) (fn : F = [] ↔ w = .non) (hp : In 7 p) (hq : In 7 q) (hb : In (10 ^ 6) bx)
    (hE : ∀ c2 c3 c4 c5 c6 c7 c8 c9 c10 c11 c12 c13 c14, E.nx [c0, .dk a1 a2 a3, c2, c3, c4, c5, c6, c7, c8, c9, c10, c11, c12, c13, c14]) :
    w_law_t6 E [c0, .dk a1 a2 a3, c2, .d (prD p q), .d (tI bx), .d (.int (ax : Nat)), .d (.list (lI F)), c7, c8, c9, c10, c11, c12, c13, c14] := by
  have e6 : (10 : Int) ^ Int.toNat 6 = 1000000 := rfl
  have e5 : (10 : Int) ^ Int.toNat 5 = 100000 := rfl
  have e12 : (10 : Int) ^ Int.toNat 12 = 1000000000000 := rfl
  simp -implicitDefEqProofs -dsimp [w_law_t6, CPow, e6]
  refine ask_draw (by omega) (by omega) fun u u0 u1 => ?_
  simp -implicitDefEqProofs -dsimp [CPow, e5, e12]
  refine ⟨cm_l (by omega), ask_draw (by omega) (by omega) fun v v0 v1 => ?_⟩
  (try simp -implicitDefEqProofs -dsimp)
  refine for_stay (fun δ => ∃ c7 c8 c11, δ = [c0, .dk a1 a2 a3, c2, .d (prD p q), .d (tI bx), .d (.int (ax : Nat)), .d (.list (lI F)), c7, c8, c9, c10, c11, c12, c13, c14]) ⟨_, _, _, rfl⟩ ?_ ?_
  · rintro δ ⟨c7, c8, c11, rfl⟩
    (try simp -implicitDefEqProofs -dsimp)
    exact rd_law_t5 pb hx hw w7 fn hp hq hb hE
  · rintro y hy δ ⟨c7, c8, c11, rfl⟩ K' B' T' hK'
    have hy : ∃ N : Nat, y = .int (N : Int) ∧ N ≤ 10 ^ 12 := by
      simp only [List.mem_cons, List.not_mem_nil, or_false] at hy
      have nc : ∀ x : Int, 0 ≤ x → x ≤ 10 ^ 12 → ∃ N : Nat, PyData.int x = .int (N : Int) ∧ N ≤ 10 ^ 12 := fun x x0 x1 => ⟨x.toNat, by rw [Int.toNat_of_nonneg x0], by omega⟩
      rcases hy with rfl | rfl | rfl <;> exact nc _ (by omega) (by omega)
    obtain ⟨N, rfl, hN⟩ := hy
    simp -implicitDefEqProofs -dsimp [w_law_7]
    refine ask_of (sp := sp_side_at) ⟨p, q, bx, ax, N, rfl, pb, hx, by rw [hw]; exact way7_sm w7, by omega, fun e => ?_, fun x x1 x2 x3 => ?_⟩
    · rw [hw] at e
      have e := fn.mpr e
      subst e
      simp -implicitDefEqProofs -dsimp [w_law_s7]
      refine ⟨shaped_nil, ?_⟩
      simp -implicitDefEqProofs -dsimp [w_law_t4, w_law_t3, shaped_nil, PyData.eqvAll]
      exact hK' _ ⟨_, _, _, rfl⟩
    · rw [hw] at x2 x3
      have at1 : AtIs w N x := ⟨x1, x2, x3⟩
      have x4 := at1.le w7
      have F0 : F ≠ [] := fun e => by
        rw [fn.mp e] at x2
        cases x2
      have F1 : PyData.eqvAll (lI F) [] = false := eN F0
      simp -implicitDefEqProofs -dsimp [w_law_s7]
      refine ⟨shaped_ints F, shaped_nil, ?_⟩
      rw [F1, if_neg (by simp)]
      simp -implicitDefEqProofs -dsimp [w_law_t4]
      refine ⟨shaped_ints F, shaped_nil, ?_⟩
      rw [F1]
      (try simp -implicitDefEqProofs -dsimp)
      have wf := way_fits (s := (x : Int)) pb hx (by omega)
      rw [hw, x2] at wf
      have bX : (x : Int) ≤ 10 ^ 60 := by omega
      have l1 := pb.l1
      refine ask_with hx (by omega) ?_
      (try simp -implicitDefEqProofs -dsimp)
      refine ask_of (sp := sp_Lfar_filled) ⟨p, q, _, rfl, pb.side (Pos.of (by omega) (by have := BIG_ge; omega)), fun x hx => by have := hp x hx; omega, fun x hx => by have := hq x hx; omega, fun y hy => ?_, ?_⟩
      · rcases List.mem_or_eq_of_mem_set hy with q | q
        · have := hb y q; omega
        · rw [q]; omega
      rw [wf]
      simp -implicitDefEqProofs -dsimp [w_law_t3, CPow, e12]
      refine ⟨shaped_ints F, shaped_nil, ?_⟩
      rw [F1, if_neg (by simp)]
      by_cases c : (x : Int) ≤ 1000000000000
      · rw [if_pos c]
        obtain ⟨s, es, f2, c2⟩ := at1.pred
        simp -implicitDefEqProofs -dsimp [w_law_4]
        refine ask_of (sp := sp_side_number) ⟨p, q, bx, ax, s, by rw [es], pb, hx, by rw [hw]; exact sm_bd (way7_sm w7), by omega, ?_⟩
        rw [hw, if_pos f2, c2]
        (try simp -implicitDefEqProofs -dsimp)
        refine ask_of (sp := sp_count_along) ⟨p, q, bx, ax, x, rfl, pb, hx, by rw [hw]; exact sm_bd (way7_sm w7), by omega, ?_⟩
        rw [hw, x3]
        simp -implicitDefEqProofs -dsimp [w_law_s6]
        have sh : Shp false 3 2000 (.list [.int (N : Int), .int ((N : Int) + 1)]) := shI (i1 (by omega) (by omega)) (i1 (by omega) (by omega))
        refine sh.repr ?_
        refine sh.repr ?_
        (try simp -implicitDefEqProofs -dsimp)
        exact hK' _ ⟨_, _, _, rfl⟩
      · rw [if_neg c]
        exact hK' _ ⟨_, _, _, rfl⟩
theorem rd_law : ∀ cs R, sp_law cs R → w_law (endsOf cs R) (start0 15 cs) := by
  rintro _ R ⟨a, ns, rfl, hR⟩
  simp -implicitDefEqProofs -dsimp [w_law]
  refine ask_deck fun a1 a2 a3 => ?_
  (try simp -implicitDefEqProofs -dsimp)
  refine for_cnt 0 7 (fun i δ => ∃ c2 c3 c4 c5 c6 c7 c8 c9 c10 c11 c12 c13 c14, δ = [.scr a ns, .dk a1 a2 a3, c2, c3, c4, c5, c6, c7, c8, c9, c10, c11, c12, c13, c14]) ⟨_, _, _, _, _, _, _, _, _, _, _, _, _, rfl⟩ ?_ ?_
  · rintro δ ⟨c2, c3, c4, c5, c6, c7, c8, c9, c10, c11, c12, c13, c14, rfl⟩
    simp -implicitDefEqProofs -dsimp [w_law_t8]
    refine com_map (List.range 4) (fun (i : Nat) => .int (i : Int)) (nums_0 4) (fun _ => none) (fun i _ acc K hK => ?_) ?_
    · (try simp -implicitDefEqProofs -dsimp)
      refine ask_of (sp := sp_Lone_and_more) ⟨a1, a2, a3, rfl, ?_⟩
      (try simp -implicitDefEqProofs -dsimp)
      simpa using hK
    · have e : List.filterMap (fun (_ : Nat) => (none : Option PyData)) (List.range 4) = [] := by simp
      rw [e]
      simp -implicitDefEqProofs -dsimp [shaped_nil, PyData.eqvAll]
      exact hR _
  · rintro i δ hi ⟨c2, c3, c4, c5, c6, c7, c8, c9, c10, c11, c12, c13, c14, rfl⟩ K B T hK
    simp -implicitDefEqProofs -dsimp [w_law_13]
    refine ask_of ⟨a1, a2, a3, rfl, fun p q bx ax lq lb l4 hax hp hq hb => ?_⟩
    have pb : PB p q bx := ⟨by omega, by omega, by omega, by omega, fun x hx => Pos.of (hp x hx).1 (by have := hp x hx; omega), fun x hx => Pos.of (hq x hx).1 (by have := hq x hx; omega), fun x hx => Pos.of (hb x hx).1 (by have := hb x hx; omega)⟩
    have hx : ax < bx.length := by omega
    simp -implicitDefEqProofs -dsimp [w_law_s11]
    refine ask_of (sp := sp_Lfitting) ⟨p, q, bx, ax, 120, rfl, pb, ?_, ?_, ?_, hx, by omega, by omega, ?_⟩
    · exact fun x hx => by have := hp x hx; omega
    · exact fun x hx => by have := hq x hx; omega
    · exact fun x hx => by have := hb x hx; omega
    obtain ⟨w, hw⟩ : ∃ w, wayF p q bx ax = w := ⟨_, rfl⟩
    have w7 := way7 pb hx hp hq
    rw [hw] at w7 ⊢
    have e120 : ((120 : Nat) : Int) = 120 := rfl
    have fn := fit_none w7 (M := 120) (by omega)
    have fa := fun N r (h : AtIs w N r) => fit_at h (M := 120)
    have af := fun N => at_fit (w := w) (M := 120) (N := N)
    have fm := fun x => fit_mem (w := w) (M := 120) (x := x)
    rw [e120] at fn
    simp only [e120] at fa af fm
    have ll : (fitL w 120).length ≤ 120 := by
      have := fit_cnt w 120
      rw [e120] at this
      rw [this]
      have : ∀ (p : Nat → Bool) (x : Nat), cntP p x ≤ x := fun p x => by
        induction x with
        | zero => exact Nat.le_refl _
        | succ x ih =>
          rw [cnt_succ]
          split <;> omega
      exact this _ _
    have i1 : ∀ {i : Int}, -(10 ^ 30) ≤ i → i ≤ 10 ^ 30 → Shp false 2 600 (.int i) := fun h0 h1 => Shp.mono (n := 0) (w := 209) (Shp.int200 (by omega) (by omega)) (by omega) (by omega)
    have no : Shp false 2 600 .none := Shp.mono (n := 0) (w := 8) Shp.none (by omega) (by omega)
    have nd : (fitL w 120).Nodup := by
      unfold fitL
      refine List.Pairwise.filter _ (List.pairwise_map.mpr ?_)
      exact List.Pairwise.imp (fun h => by omega) List.nodup_range
    revert fn fa af fm ll nd
    generalize fitL w 120 = F
    intro fn fa af fm ll nd
    simp -implicitDefEqProofs -dsimp [w_law_s10]
    refine ask_draw (by omega) (by omega) fun v v0 v1 => ?_
    (try simp -implicitDefEqProofs -dsimp)
    refine for_stay (fun δ => ∃ c7 c8, δ = [.scr a ns, .dk a1 a2 a3, .d (.int (i : Int)), .d (prD p q), .d (tI bx), .d (.int (ax : Nat)), .d (.list (lI F)), c7, c8, c9, c10, c11, c12, c13, c14]) ⟨_, _, rfl⟩ ?_ ?_
    · rintro δ ⟨c7, c8, rfl⟩
      simp -implicitDefEqProofs -dsimp [w_law_t7]
      refine ask_draw (by omega) (by omega) fun u u0 u1 => ?_
      (try simp -implicitDefEqProofs -dsimp)
      refine ask_draw (by omega) (by omega) fun v v0 v1 => ?_
      (try simp -implicitDefEqProofs -dsimp)
      refine for_stay (fun δ => ∃ c9 c10, δ = [.scr a ns, .dk a1 a2 a3, .d (.int (i : Int)), .d (prD p q), .d (tI bx), .d (.int (ax : Nat)), .d (.list (lI F)), c7, c8, c9, c10, c11, c12, c13, c14]) ⟨_, _, rfl⟩ ?_ ?_
      · rintro δ ⟨c9, c10, rfl⟩
        (try simp -implicitDefEqProofs -dsimp)
        exact rd_law_t6 pb hx hw w7 fn hp hq hb fun _ _ _ _ _ _ _ _ _ _ _ _ _ => hK _ ⟨_, _, _, _, _, _, _, _, _, _, _, _, _, rfl⟩
      · rintro y hy δ ⟨c9, c10, rfl⟩ K' B' T' hK'
        have hy : ∃ s : Nat, y = .int ((s + 1 : Nat) : Int) ∧ s + 1 ≤ 100 := by
          simp only [List.mem_cons, List.not_mem_nil, or_false] at hy
          rcases hy with rfl | rfl | rfl | rfl
          · exact ⟨0, rfl, by omega⟩
          · exact ⟨1, rfl, by omega⟩
          · exact ⟨u.toNat, by rw [show ((u.toNat + 1 : Nat) : Int) = 1 + u by omega], by omega⟩
          · exact ⟨v.toNat, by rw [show ((v.toNat + 1 : Nat) : Int) = 1 + v by omega], by omega⟩
        obtain ⟨s, rfl, hs⟩ := hy
        have hs' : s + 1 ≤ 120 := by omega
        simp -implicitDefEqProofs -dsimp [w_law_9]
        have ey : ((s + 1 : Nat) : Int) = (s : Int) + 1 := rfl
        have fits : (s : Int) + 1 ∈ F ↔ w.fits ((s + 1 : Nat) : Int) = true := by
          rw [fm]
          exact ⟨fun h => h.2, fun h => ⟨⟨by omega, by omega⟩, h⟩⟩
        have cl : cntW w s ≤ s := by
          have : ∀ (p : Nat → Bool) (x : Nat), cntP p x ≤ x := fun p x => by
            induction x with
            | zero => exact Nat.le_refl _
            | succ x ih =>
              rw [cnt_succ]
              split <;> omega
          exact this _ _
        have sn : ∀ {K2 : PyData → List Cell → Prop}, K2 (if w.fits ((s + 1 : Nat) : Int) = true then .int (cntW w s : Nat) else .none) [.d (prD p q), .d (tI bx), .d (.int (ax : Nat)), .d (.int ((s : Int) + 1))] → sp_side_number [.d (prD p q), .d (tI bx), .d (.int (ax : Nat)), .d (.int ((s : Int) + 1))] K2 := fun {K2} k =>
          ⟨p, q, bx, ax, s, rfl, pb, hx, by rw [hw]; exact sm_bd (way7_sm w7), by omega, by rw [hw]; exact k⟩
        refine ⟨by simp [SeqAt.shaped, PyData.canLay0, PyData.depth], shaped_ints F, ?_⟩
        by_cases c : w.fits ((s + 1 : Nat) : Int) = true
        · rw [if_pos (ex_int.mpr (fits.mpr c))]
          obtain ⟨j, j1, j2⟩ := ix_int (fits.mpr c)
          have j3 := fa _ _ (at_of c) hs'
          have j4 : j = cntW w s := by
            obtain ⟨l1, g1⟩ := List.getElem?_eq_some_iff.mp j2
            obtain ⟨l2, g2⟩ := List.getElem?_eq_some_iff.mp j3
            exact (List.getElem_inj nd).mp (g1.trans g2.symm)
          subst j4
          refine ⟨shaped_ints F, by simp [SeqAt.shaped, PyData.canLay0, PyData.depth], ?_⟩
          rw [j1]
          simp -implicitDefEqProofs -dsimp [w_law_s8]
          refine ask_of (sp := sp_side_number) (sn ?_)
          rw [if_pos c]
          (try simp -implicitDefEqProofs -dsimp)
          refine (i1 (i := ((cntW w s : Nat) : Int)) (by omega) (by omega)).repr ?_
          refine (i1 (i := ((cntW w s : Nat) : Int)) (by omega) (by omega)).repr ?_
          (try simp -implicitDefEqProofs -dsimp)
          exact hK' _ ⟨_, _, rfl⟩
        · rw [if_neg fun h => c (fits.mp (ex_int.mp h))]
          refine ask_of (sp := sp_side_number) (sn ?_)
          rw [if_neg c]
          (try simp -implicitDefEqProofs -dsimp)
          refine no.repr ?_
          refine no.repr ?_
          (try simp -implicitDefEqProofs -dsimp)
          exact hK' _ ⟨_, _, rfl⟩
    · rintro y hy δ ⟨c7, c8, rfl⟩ K' B' T' hK'
      have hy : ∃ N : Nat, y = .int (N : Int) ∧ N ≤ 39 := by
        simp only [List.mem_cons, List.not_mem_nil, or_false] at hy
        rcases hy with rfl | rfl | rfl
        · exact ⟨0, rfl, by omega⟩
        · exact ⟨1, rfl, by omega⟩
        · exact ⟨v.toNat, by rw [Int.toNat_of_nonneg v0], by omega⟩
      obtain ⟨N, rfl, hN⟩ := hy
      simp -implicitDefEqProofs -dsimp [w_law_11]
      refine ask_of (sp := sp_side_at) ⟨p, q, bx, ax, N, rfl, pb, hx, by rw [hw]; exact way7_sm w7, by omega, fun e => ?_, fun x x1 x2 x3 => ?_⟩
      · rw [hw] at e
        have e := fn.mpr e
        subst e
        simp -implicitDefEqProofs -dsimp [w_law_s9]
        rw [if_neg (by omega)]
        exact ⟨shaped_nil, hK' _ ⟨_, _, rfl⟩⟩
      · rw [hw] at x2 x3
        have at1 : AtIs w N x := ⟨x1, x2, x3⟩
        have x4 := at1.le w7
        simp -implicitDefEqProofs -dsimp [w_law_s9]
        have F0 : PyData.eqvAll (lI F) [] = false := eN fun e => by
          rw [fn.mp e] at x2
          cases x2
        refine ⟨shaped_ints F, shaped_nil, ?_⟩
        rw [F0, if_neg (by simp)]
        by_cases c : N < F.length
        · rw [if_pos c]
          obtain ⟨x', e1, e2⟩ := af N c
          have ex := at1.uni e2
          subst ex
          rw [e1]
          refine (i1 (i := (x : Int)) (by omega) (by omega)).repr ?_
          (try simp -implicitDefEqProofs -dsimp)
          refine (i1 (i := (x : Int)) (by omega) (by omega)).repr ?_
          exact hK' _ ⟨_, _, rfl⟩
        · rw [if_neg c]
          exact hK' _ ⟨_, _, rfl⟩
end K54
set_option Elab.async false
set_option linter.all false
set_option maxRecDepth 100000
set_option maxHeartbeats 4000000
namespace K54
open PySem PySem.Spec PyProof.Rows L2 DL TW
variable [DL.Tb]
def topS (i : Nat) : Stmt := PySem.Challenge.pw_twobricks_k54_sides_numbered.main.body.getD i (.Pass ⟨0, 0, 0, 0⟩)
abbrev s_common : Stmt := topS 6
theorem sc_common : FnScope ["one", "other"] ["one", "other"] (defScope s_common) := ⟨rfl, rfl, rfl, by decide +kernel, rfl, by decide +kernel, by decide +kernel⟩
abbrev s_joint : Stmt := topS 7
theorem sc_joint : FnScope ["one", "other"] ["one", "other"] (defScope s_joint) := ⟨rfl, rfl, rfl, by decide +kernel, rfl, by decide +kernel, by decide +kernel⟩
abbrev s_inverse : Stmt := topS 8
theorem sc_inverse : FnScope ["one", "other", "left", "right", "now", "later", "times"] ["one", "other"] (defScope s_inverse) := ⟨rfl, rfl, rfl, by decide +kernel, rfl, by decide +kernel, by decide +kernel⟩
abbrev s_least_times : Stmt := topS 9
theorem sc_least_times : FnScope ["one", "other", "side", "part"] ["one", "other", "side"] (defScope s_least_times) := ⟨rfl, rfl, rfl, by decide +kernel, rfl, by decide +kernel, by decide +kernel⟩
abbrev s_is_sum : Stmt := topS 10
theorem sc_is_sum : FnScope ["one", "other", "side", "times"] ["one", "other", "side"] (defScope s_is_sum) := ⟨rfl, rfl, rfl, by decide +kernel, rfl, by decide +kernel, by decide +kernel⟩
abbrev s_sums_of : Stmt := topS 19
theorem sc_sums_of : FnScope ["one", "other", "low", "high"] ["one", "other"] (defScope s_sums_of) := ⟨rfl, rfl, rfl, by decide +kernel, rfl, by decide +kernel, by decide +kernel⟩
abbrev s_rests : Stmt := topS 20
theorem sc_rests : FnScope ["brick", "box", "axis", "at", "side"] ["brick", "box", "axis"] (defScope s_rests) := ⟨rfl, rfl, rfl, by decide +kernel, rfl, by decide +kernel, by decide +kernel⟩
abbrev s_along : Stmt := topS 21
theorem sc_along : FnScope ["pair", "box", "axis", "one", "other", "first", "second"] ["pair", "box", "axis"] (defScope s_along) := ⟨rfl, rfl, rfl, by decide +kernel, rfl, by decide +kernel, by decide +kernel⟩
abbrev s_floors : Stmt := topS 11
theorem sc_floors : FnScope ["many", "by", "step", "begin", "found", "last"] ["many", "by", "step", "begin"] (defScope s_floors) := ⟨rfl, rfl, rfl, by decide +kernel, rfl, by decide +kernel, by decide +kernel⟩
abbrev s_count_sums : Stmt := topS 12
theorem sc_count_sums : FnScope ["one", "other", "most", "part", "last"] ["one", "other", "most"] (defScope s_count_sums) := ⟨rfl, rfl, rfl, by decide +kernel, rfl, by decide +kernel, by decide +kernel⟩
abbrev s_count_by : Stmt := topS 22
theorem sc_count_by : FnScope ["way", "most", "step", "low", "high"] ["way", "most"] (defScope s_count_by) := ⟨rfl, rfl, rfl, by decide +kernel, rfl, by decide +kernel, by decide +kernel⟩
abbrev s_count_along : Stmt := topS 27
theorem sc_count_along : FnScope ["pair", "box", "axis", "most"] ["pair", "box", "axis", "most"] (defScope s_count_along) := ⟨rfl, rfl, rfl, by decide +kernel, rfl, by decide +kernel, by decide +kernel⟩
abbrev s_least_with : Stmt := topS 23
theorem sc_least_with : FnScope ["is_so", "most", "low", "high", "middle"] ["is_so", "most"] (defScope s_least_with) := ⟨rfl, rfl, rfl, by decide +kernel, rfl, by decide +kernel, by decide +kernel⟩
abbrev s_sum_at : Stmt := topS 24
theorem sc_sum_at : FnScope ["low", "high", "number", "most"] ["low", "high", "number"] (defScope s_sum_at) := ⟨rfl, rfl, rfl, by decide +kernel, rfl, by decide +kernel, by decide +kernel⟩
abbrev s_numbered : Stmt := topS 25
theorem sc_numbered : FnScope ["way", "number", "step", "low", "high"] ["way", "number"] (defScope s_numbered) := ⟨rfl, rfl, rfl, by decide +kernel, rfl, by decide +kernel, by decide +kernel⟩
abbrev s_side_at : Stmt := topS 28
theorem sc_side_at : FnScope ["pair", "box", "axis", "number"] ["pair", "box", "axis", "number"] (defScope s_side_at) := ⟨rfl, rfl, rfl, by decide +kernel, rfl, by decide +kernel, by decide +kernel⟩
abbrev s_side_number : Stmt := topS 29
theorem sc_side_number : FnScope ["pair", "box", "axis", "side", "way", "number"] ["pair", "box", "axis", "side"] (defScope s_side_number) := ⟨rfl, rfl, rfl, by decide +kernel, rfl, by decide +kernel, by decide +kernel⟩
abbrev s_Ldeck : Stmt := topS 39
theorem sc_Ldeck : FnScope ["_law_script", "_law_cells", "_law_cell"] ["_law_script"] (defScope s_Ldeck) := ⟨rfl, rfl, rfl, by decide +kernel, rfl, by decide +kernel, by decide +kernel⟩
abbrev s_Ldraw : Stmt := topS 40
theorem sc_Ldraw : FnScope ["_law_deck_here", "_law_many", "_law_rest", "_law_cell", "_law_mixed"] ["_law_deck_here", "_law_many"] (defScope s_Ldraw) := ⟨rfl, rfl, rfl, by decide +kernel, rfl, by decide +kernel, by decide +kernel⟩
abbrev s_Lone : Stmt := topS 41
theorem sc_Lone : FnScope ["_law_deck_here", "_law_items"] ["_law_deck_here", "_law_items"] (defScope s_Lone) := ⟨rfl, rfl, rfl, by decide +kernel, rfl, by decide +kernel, by decide +kernel⟩
abbrev s_Lwith : Stmt := topS 51
theorem sc_Lwith : FnScope ["_law_box_here", "_law_axis", "_law_side"] ["_law_box_here", "_law_axis", "_law_side"] (defScope s_Lwith) := ⟨rfl, rfl, rfl, by decide +kernel, rfl, by decide +kernel, by decide +kernel⟩
abbrev s_Lrests : Stmt := topS 50
theorem sc_Lrests : FnScope ["_law_brick", "_law_box_here", "_law_axis"] ["_law_brick", "_law_box_here"] (defScope s_Lrests) := ⟨rfl, rfl, rfl, by decide +kernel, rfl, by decide +kernel, by decide +kernel⟩
abbrev s_Lfar_sum : Stmt := topS 52
theorem sc_Lfar_sum : FnScope ["_law_side", "_law_one_here", "_law_other", "_law_k"] ["_law_side", "_law_one_here", "_law_other"] (defScope s_Lfar_sum) := ⟨rfl, rfl, rfl, by decide +kernel, rfl, by decide +kernel, by decide +kernel⟩
abbrev s_Lfar_filled : Stmt := topS 53
theorem sc_Lfar_filled : FnScope ["_law_pair_here", "_law_box_here", "_law_one_here", "_law_other"] ["_law_pair_here", "_law_box_here"] (defScope s_Lfar_filled) := ⟨rfl, rfl, rfl, by decide +kernel, rfl, by decide +kernel, by decide +kernel⟩
abbrev s_Lsides : Stmt := topS 44
theorem sc_Lsides : FnScope ["_law_deck_here", "_law_axes", "_law_most", "_law_axis"] ["_law_deck_here", "_law_axes", "_law_most"] (defScope s_Lsides) := ⟨rfl, rfl, rfl, by decide +kernel, rfl, by decide +kernel, by decide +kernel⟩
abbrev s_Lpair : Stmt := topS 45
theorem sc_Lpair : FnScope ["_law_deck_here", "_law_axes", "_law_most", "_law_one_here", "_law_other", "_law_at"] ["_law_deck_here", "_law_axes", "_law_most"] (defScope s_Lpair) := ⟨rfl, rfl, rfl, by decide +kernel, rfl, by decide +kernel, by decide +kernel⟩
abbrev s_Lvolume : Stmt := topS 42
theorem sc_Lvolume : FnScope ["_law_sides_here", "_law_found", "_law_side"] ["_law_sides_here"] (defScope s_Lvolume) := ⟨rfl, rfl, rfl, by decide +kernel, rfl, by decide +kernel, by decide +kernel⟩
abbrev s_Ldivisor : Stmt := topS 43
theorem sc_Ldivisor : FnScope ["_law_one_here", "_law_other"] ["_law_one_here", "_law_other"] (defScope s_Ldivisor) := ⟨rfl, rfl, rfl, by decide +kernel, rfl, by decide +kernel, by decide +kernel⟩
abbrev s_Llcm : Stmt := topS 46
theorem sc_Llcm : FnScope ["_law_one_here", "_law_other"] ["_law_one_here", "_law_other"] (defScope s_Llcm) := ⟨rfl, rfl, rfl, by decide +kernel, rfl, by decide +kernel, by decide +kernel⟩
abbrev s_Lcut_box : Stmt := topS 47
theorem sc_Lcut_box : FnScope ["_law_deck_here", "_law_pair_here", "_law_many", "_law_axis", "_law_found", "_law_k"] ["_law_deck_here", "_law_pair_here", "_law_many"] (defScope s_Lcut_box) := ⟨rfl, rfl, rfl, by decide +kernel, rfl, by decide +kernel, by decide +kernel⟩
abbrev s_Lplain_box : Stmt := topS 48
theorem sc_Lplain_box : FnScope ["_law_deck_here", "_law_pair_here", "_law_many", "_law_brick", "_law_side"] ["_law_deck_here", "_law_pair_here", "_law_many"] (defScope s_Lplain_box) := ⟨rfl, rfl, rfl, by decide +kernel, rfl, by decide +kernel, by decide +kernel⟩
abbrev s_Lbox : Stmt := topS 49
theorem sc_Lbox : FnScope ["_law_deck_here", "_law_pair_here", "_law_most", "_law_cells", "_law_turn", "_law_way", "_law_found", "_law_at", "_law_near"] ["_law_deck_here", "_law_pair_here", "_law_most", "_law_cells"] (defScope s_Lbox) := ⟨rfl, rfl, rfl, by decide +kernel, rfl, by decide +kernel, by decide +kernel⟩
abbrev s_Ltask : Stmt := topS 54
theorem sc_Ltask : FnScope ["_law_deck_here", "_law_axes", "_law_pair_here"] ["_law_deck_here"] (defScope s_Ltask) := ⟨rfl, rfl, rfl, by decide +kernel, rfl, by decide +kernel, by decide +kernel⟩
abbrev s_Lfitting : Stmt := topS 55
theorem sc_Lfitting : FnScope ["_law_pair_here", "_law_box_here", "_law_axis", "_law_most", "_law_side"] ["_law_pair_here", "_law_box_here", "_law_axis", "_law_most"] (defScope s_Lfitting) := ⟨rfl, rfl, rfl, by decide +kernel, rfl, by decide +kernel, by decide +kernel⟩
abbrev s_next_side : Stmt := topS 26
theorem sc_next_side : FnScope ["pair", "box", "axis", "least", "way"] ["pair", "box", "axis", "least"] (defScope s_next_side) := ⟨rfl, rfl, rfl, by decide +kernel, rfl, by decide +kernel, by decide +kernel⟩
abbrev s_sorts : Stmt := topS 30
theorem sc_sorts : FnScope ["pair", "axis", "most", "one", "other", "both", "first", "second"] ["pair", "axis", "most"] (defScope s_sorts) := ⟨rfl, rfl, rfl, by decide +kernel, rfl, by decide +kernel, by decide +kernel⟩
abbrev s_state_behind : Stmt := topS 32
theorem sc_state_behind : FnScope ["state", "sort"] ["state", "sort"] (defScope s_state_behind) := ⟨rfl, rfl, rfl, by decide +kernel, rfl, by decide +kernel, by decide +kernel⟩
abbrev s_upto : Stmt := topS 34
theorem sc_upto : FnScope ["pair", "most", "axis", "state", "side", "found", "sort", "many"] ["pair", "most", "axis", "state", "side"] (defScope s_upto) := ⟨rfl, rfl, rfl, by decide +kernel, rfl, by decide +kernel, by decide +kernel⟩
abbrev s_ways_from : Stmt := topS 33
theorem sc_ways_from : FnScope ["pair", "most", "axis", "state"] ["pair", "most", "axis", "state"] (defScope s_ways_from) := ⟨rfl, rfl, rfl, by decide +kernel, rfl, by decide +kernel, by decide +kernel⟩
abbrev s_count_boxes : Stmt := topS 35
theorem sc_count_boxes : FnScope ["pair", "most"] ["pair", "most"] (defScope s_count_boxes) := ⟨rfl, rfl, rfl, by decide +kernel, rfl, by decide +kernel, by decide +kernel⟩
abbrev s_is_integer : Stmt := topS 4
theorem sc_is_integer : FnScope ["value", "low", "high"] ["value", "low", "high"] (defScope s_is_integer) := ⟨rfl, rfl, rfl, by decide +kernel, rfl, by decide +kernel, by decide +kernel⟩
abbrev s_sort_of : Stmt := topS 31
theorem sc_sort_of : FnScope ["pair", "axis", "side", "one", "other"] ["pair", "axis", "side"] (defScope s_sort_of) := ⟨rfl, rfl, rfl, by decide +kernel, rfl, by decide +kernel, by decide +kernel⟩
abbrev s_box_at : Stmt := topS 36
theorem sc_box_at : FnScope ["pair", "most", "number", "found", "state", "axis", "top", "side"] ["pair", "most", "number"] (defScope s_box_at) := ⟨rfl, rfl, rfl, by decide +kernel, rfl, by decide +kernel, by decide +kernel⟩
abbrev s_box_number : Stmt := topS 37
theorem sc_box_number : FnScope ["pair", "most", "box", "number", "state", "axis", "side"] ["pair", "most", "box"] (defScope s_box_number) := ⟨rfl, rfl, rfl, by decide +kernel, rfl, by decide +kernel, by decide +kernel⟩
abbrev s_Lneighbours_right : Stmt := topS 56
theorem sc_Lneighbours_right : FnScope ["_law_one_here", "_law_rows", "_law_side", "_law_number", "_law_rest", "_law_pair_here", "_law_box_here"] ["_law_one_here", "_law_rows", "_law_side", "_law_number"] (defScope s_Lneighbours_right) := ⟨rfl, rfl, rfl, by decide +kernel, rfl, by decide +kernel, by decide +kernel⟩
abbrev s_Lone_and_more : Stmt := topS 57
theorem sc_Lone_and_more : FnScope ["_law_deck_here", "_law_one_here", "_law_rows", "_law_rest", "_law_number"] ["_law_deck_here"] (defScope s_Lone_and_more) := ⟨rfl, rfl, rfl, by decide +kernel, rfl, by decide +kernel, by decide +kernel⟩
abbrev s_law : Stmt := topS 58
theorem sc_law : FnScope ["_law_script", "_law_deck_here", "_law_turn", "_law_pair_here", "_law_box_here", "_law_axis", "_law_known", "_law_number", "_law_told", "_law_side", "_law_due", "_law_found", "_law_times", "_law_wide", "_law_brick"] ["_law_script"] (defScope s_law) := ⟨rfl, rfl, rfl, by decide +kernel, rfl, by decide +kernel, by decide +kernel⟩
set_option maxHeartbeats 0 in
theorem ok_common {P : Program} {w : World} {K : PySem.W.Frag} {mg : Str → Option Value} {base : Heap} {f : Addr} {fd : FuncData} (F : Fun K "common" "common" s_common f fd)  : FnG P w K mg base CX0 1 f fd ["one", "other"] (liftSp K sp_common) := by
  have nd := sc_common.nd
  refine okD (wb := w_common) F sc_common ln_common (fun cdv A outer s H E hr => ?_) rd_common
  exact (jss_cons (js_while PassesOwn.never (jt_cmp d_gt (jv 1) je_int) (jss_one (jpar (i := 0) (j := 1) rfl nd rfl rfl (by decide) (jms_cons (jm_e (jv 1)) (jms_cons (jm_e (je_op d_mod (jv 0) (jv 1))) jms_nil)))))
    (jss_one (js_ret (jv 0))))
set_option maxHeartbeats 0 in
theorem ok_joint {P : Program} {w : World} {K : PySem.W.Frag} {mg : Str → Option Value} {base : Heap} {f : Addr} {fd : FuncData} (F : Fun K "joint" "joint" s_joint f fd) {f_common : Addr} {fd_common : FuncData} (F_common : FnG P w K mg base CX0 1 f_common fd_common ["one", "other"] (liftSp K sp_common)) (g_common : mg "common" = some (.ref f_common)) (k_common : PySem.W.keepIn K (.ref f_common) = true) (b_common : Binds K fd_common ["one", "other"] []) : FnG P w K mg base CX0 2 f fd ["one", "other"] (liftSp K sp_joint) := by
  have nd := sc_joint.nd
  replace F_common := F_common.mono (show 1 ≤ 1 by decide)
  refine okD (wb := w_joint) F sc_joint ln_joint (fun cdv A outer s H E hr => ?_) rd_joint
  exact (jss_one (js_ret (je_op d_mulT (je_op d_div (jv 0) (je_call (m := []) F_common hr rfl g_common k_common b_common (ja_cons (jv 0) (ja_cons (jv 1) ja_nil)))) (jv 1))))
set_option maxHeartbeats 0 in
theorem ok_inverse {P : Program} {w : World} {K : PySem.W.Frag} {mg : Str → Option Value} {base : Heap} {f : Addr} {fd : FuncData} (F : Fun K "inverse" "inverse" s_inverse f fd)  : FnG P w K mg base CX0 1 f fd ["one", "other"] (liftSp K sp_inverse) := by
  have nd := sc_inverse.nd
  refine okD (wb := w_inverse) F sc_inverse ln_inverse (fun cdv A outer s H E hr => ?_) rd_inverse
  exact (jss_cons (js_asgG (je_tup (ja_cons (je_op d_mod (jv 0) (jv 1)) (ja_cons (jv 1) (ja_cons je_int (ja_cons je_int ja_nil))))) (jg_tup rfl (jgs_cons (jgn 2 nd) (jgs_cons (jgn 3 nd) (jgs_cons (jgn 4 nd) (jgs_cons (jgn 5 nd) jgs_nil)))) (gs_lenN (gs_lenN (gs_lenN (gs_lenN gs_len0))))))
    (jss_cons (js_while PassesOwn.never (jt_cmp d_gt (jv 2) je_int) (jss_cons (jset 6 nd (jm_e (je_op d_div (jv 3) (jv 2))))
    (jss_cons (jpar (i := 2) (j := 3) rfl nd rfl rfl (by decide) (jms_cons (jm_e (je_op d_subB (jv 3) (je_op d_mulT (jv 6) (jv 2)))) (jms_cons (jm_e (jv 2)) jms_nil)))
    (jss_one (jpar (i := 4) (j := 5) rfl nd rfl rfl (by decide) (jms_cons (jm_e (je_op d_subB (jv 5) (je_op d_mulT (jv 6) (jv 4)))) (jms_cons (jm_e (jv 4)) jms_nil)))))))
    (jss_one (js_ret (je_op d_mod (jv 5) (jv 1))))))
set_option maxHeartbeats 0 in
theorem ok_least_times {P : Program} {w : World} {K : PySem.W.Frag} {mg : Str → Option Value} {base : Heap} {f : Addr} {fd : FuncData} (F : Fun K "least_times" "least_times" s_least_times f fd) {f_inverse : Addr} {fd_inverse : FuncData} (F_inverse : FnG P w K mg base CX0 1 f_inverse fd_inverse ["one", "other"] (liftSp K sp_inverse)) (g_inverse : mg "inverse" = some (.ref f_inverse)) (k_inverse : PySem.W.keepIn K (.ref f_inverse) = true) (b_inverse : Binds K fd_inverse ["one", "other"] []) {f_common : Addr} {fd_common : FuncData} (F_common : FnG P w K mg base CX0 1 f_common fd_common ["one", "other"] (liftSp K sp_common)) (g_common : mg "common" = some (.ref f_common)) (k_common : PySem.W.keepIn K (.ref f_common) = true) (b_common : Binds K fd_common ["one", "other"] []) : FnG P w K mg base CX0 2 f fd ["one", "other", "side"] (liftSp K sp_least_times) := by
  have nd := sc_least_times.nd
  replace F_inverse := F_inverse.mono (show 1 ≤ 1 by decide)
  replace F_common := F_common.mono (show 1 ≤ 1 by decide)
  refine okD (wb := w_least_times) F sc_least_times ln_least_times (fun cdv A outer s H E hr => ?_) rd_least_times
  exact (jss_cons (jset 3 nd (jm_e (je_call (m := []) F_common hr rfl g_common k_common b_common (ja_cons (jv 0) (ja_cons (jv 1) ja_nil)))))
    (jss_cons (js_if (jt_cmp (d_ne hr.u64) (je_op d_mod (jv 2) (jv 3)) je_int) (jss_one (js_ret je_non)) jss_nil)
    (jss_one (js_ret (je_op d_mod (je_op d_mulT (je_op d_div (jv 2) (jv 3)) (je_call (m := []) F_inverse hr rfl g_inverse k_inverse b_inverse (ja_cons (je_op d_div (jv 0) (jv 3)) (ja_cons (je_op d_div (jv 1) (jv 3)) ja_nil)))) (je_op d_div (jv 1) (jv 3)))))))
set_option maxHeartbeats 0 in
theorem ok_is_sum {P : Program} {w : World} {K : PySem.W.Frag} {mg : Str → Option Value} {base : Heap} {f : Addr} {fd : FuncData} (F : Fun K "is_sum" "is_sum" s_is_sum f fd) {f_least_times : Addr} {fd_least_times : FuncData} (F_least_times : FnG P w K mg base CX0 2 f_least_times fd_least_times ["one", "other", "side"] (liftSp K sp_least_times)) (g_least_times : mg "least_times" = some (.ref f_least_times)) (k_least_times : PySem.W.keepIn K (.ref f_least_times) = true) (b_least_times : Binds K fd_least_times ["one", "other", "side"] []) : FnG P w K mg base CX0 3 f fd ["one", "other", "side"] (liftSp K sp_is_sum) := by
  have nd := sc_is_sum.nd
  replace F_least_times := F_least_times.mono (show 2 ≤ 2 by decide)
  refine okD (wb := w_is_sum) F sc_is_sum ln_is_sum (fun cdv A outer s H E hr => ?_) rd_is_sum
  exact (jss_cons (jset 3 nd (jm_e (je_call (m := []) F_least_times hr rfl g_least_times k_least_times b_least_times (ja_cons (jv 0) (ja_cons (jv 1) (ja_cons (jv 2) ja_nil))))))
    (jss_one (js_ret (je_and (je_cmp d_isnot (jv 3) je_non) (je_one (je_cmp d_le (je_op d_mulT (jv 0) (jv 3)) (jv 2)))))))
set_option maxHeartbeats 0 in
theorem ok_sums_of {P : Program} {w : World} {K : PySem.W.Frag} {mg : Str → Option Value} {base : Heap} {f : Addr} {fd : FuncData} (F : Fun K "sums_of" "sums_of" s_sums_of f fd) (z_min : mg "min" = none) (z_max : mg "max" = none) {t_STEPS : Tok} (c_STEPS : mg "STEPS" = some (.str "steps" t_STEPS)) {t_SUMS : Tok} (c_SUMS : mg "SUMS" = some (.str "sums" t_SUMS)) : FnG P w K mg base CX0 1 f fd ["one", "other"] (liftSp K sp_sums_of) := by
  have nd := sc_sums_of.nd
  refine okD (wb := w_sums_of) F sc_sums_of ln_sums_of (fun cdv A outer s H E hr => ?_) rd_sums_of
  exact (jss_cons (jpar (i := 2) (j := 3) rfl nd rfl rfl (by decide) (jms_cons (jm_e (je_fn (c_min2 rfl) rfl z_min boot_min (ja_cons (jv 0) (ja_cons (jv 1) ja_nil)))) (jms_cons (jm_e (je_fn (c_max2 rfl) rfl z_max boot_max (ja_cons (jv 0) (ja_cons (jv 1) ja_nil)))) jms_nil)))
    (jss_one (js_ret (je_ifE (jt_cmp (d_eq hr.u64) (je_op d_mod (jv 3) (jv 2)) je_int) (je_tup (ja_cons (je_glob (v := .str "steps") rfl c_STEPS ⟨_, rfl⟩ (fun _ _ => .str _)) (ja_cons (jv 2) ja_nil))) (je_tup (ja_cons (je_glob (v := .str "sums") rfl c_SUMS ⟨_, rfl⟩ (fun _ _ => .str _)) (ja_cons (jv 2) (ja_cons (jv 3) ja_nil))))))))
set_option maxHeartbeats 0 in
theorem ok_rests {P : Program} {w : World} {K : PySem.W.Frag} {mg : Str → Option Value} {base : Heap} {f : Addr} {fd : FuncData} (F : Fun K "rests" "rests" s_rests f fd) (z_enumerate : mg "enumerate" = none) : FnG P w K mg base CX0 1 f fd ["brick", "box", "axis"] (liftSp K sp_restsA) := by
  have nd := sc_rests.nd
  refine okD (wb := w_restsA) F sc_rests ln_restsA (fun cdv A outer s H E hr => ?_) rd_restsA
  exact (jss_one (js_ret (je_ofL (jl_comp (own := [("at", 3), ("side", 4)]) rfl nd (ji_enum rfl z_enumerate (ja_cons (jv 1) ja_nil)) (blkOk_by (by kernel_rfl)) (by decide) (fun _ _ _ _ _ => (jg_tup rfl (jgs_cons (jgn 3 nd) (jgs_cons (jgn 4 nd) jgs_nil)) (gs_lenN (gs_lenN gs_len0)))) (fun _ _ _ _ _ => (jts_one (jt_w (jw_and (jt_cmp (d_ne hr.u64) (jv 3) (jv 2)) (jw_and1 (jt_cmp (d_ne hr.u64) (je_op d_mod (jv 4) (je_ix d_ix (jv 0) (jv 3) (fun _ _ => rfl))) je_int)))))) (fun _ _ _ _ _ => (jv 3))))))
set_option maxHeartbeats 0 in
theorem ok_along {P : Program} {w : World} {K : PySem.W.Frag} {mg : Str → Option Value} {base : Heap} {f : Addr} {fd : FuncData} (F : Fun K "along" "along" s_along f fd) (z_len : mg "len" = none) {t_NONE : Tok} (c_NONE : mg "NONE" = some (.str "none" t_NONE)) {t_STEPS : Tok} (c_STEPS : mg "STEPS" = some (.str "steps" t_STEPS)) {f_is_sum : Addr} {fd_is_sum : FuncData} (F_is_sum : FnG P w K mg base CX0 3 f_is_sum fd_is_sum ["one", "other", "side"] (liftSp K sp_is_sum)) (g_is_sum : mg "is_sum" = some (.ref f_is_sum)) (k_is_sum : PySem.W.keepIn K (.ref f_is_sum) = true) (b_is_sum : Binds K fd_is_sum ["one", "other", "side"] []) {f_joint : Addr} {fd_joint : FuncData} (F_joint : FnG P w K mg base CX0 2 f_joint fd_joint ["one", "other"] (liftSp K sp_joint)) (g_joint : mg "joint" = some (.ref f_joint)) (k_joint : PySem.W.keepIn K (.ref f_joint) = true) (b_joint : Binds K fd_joint ["one", "other"] []) {f_sums_of : Addr} {fd_sums_of : FuncData} (F_sums_of : FnG P w K mg base CX0 1 f_sums_of fd_sums_of ["one", "other"] (liftSp K sp_sums_of)) (g_sums_of : mg "sums_of" = some (.ref f_sums_of)) (k_sums_of : PySem.W.keepIn K (.ref f_sums_of) = true) (b_sums_of : Binds K fd_sums_of ["one", "other"] []) {f_rests : Addr} {fd_rests : FuncData} (F_rests : FnG P w K mg base CX0 1 f_rests fd_rests ["brick", "box", "axis"] (liftSp K sp_restsA)) (g_rests : mg "rests" = some (.ref f_rests)) (k_rests : PySem.W.keepIn K (.ref f_rests) = true) (b_rests : Binds K fd_rests ["brick", "box", "axis"] []) : FnG P w K mg base CX0 4 f fd ["pair", "box", "axis"] (liftSp K sp_along) := by
  have nd := sc_along.nd
  replace F_is_sum := F_is_sum.mono (show 3 ≤ 3 by decide)
  replace F_joint := F_joint.mono (show 2 ≤ 3 by decide)
  replace F_sums_of := F_sums_of.mono (show 1 ≤ 3 by decide)
  replace F_rests := F_rests.mono (show 1 ≤ 3 by decide)
  refine okD (wb := w_along) F sc_along ln_along (fun cdv A outer s H E hr => ?_) rd_along
  exact (jss_cons (jpar (i := 3) (j := 4) rfl nd rfl rfl (by decide) (jms_cons (jm_e (je_ix d_ix (je_ix d_ix (jv 0) je_int (fun _ _ => rfl)) (jv 2) (fun _ _ => rfl))) (jms_cons (jm_e (je_ix d_ix (je_ix d_ix (jv 0) je_int (fun _ _ => rfl)) (jv 2) (fun _ _ => rfl))) jms_nil)))
    (jss_cons (jpar (i := 5) (j := 6) rfl nd rfl rfl (by decide) (jms_cons (jm_e (je_call (m := []) F_rests hr rfl g_rests k_rests b_rests (ja_cons (je_ix d_ix (jv 0) je_int (fun _ _ => rfl)) (ja_cons (jv 1) (ja_cons (jv 2) ja_nil))))) (jms_cons (jm_e (je_call (m := []) F_rests hr rfl g_rests k_rests b_rests (ja_cons (je_ix d_ix (jv 0) je_int (fun _ _ => rfl)) (ja_cons (jv 1) (ja_cons (jv 2) ja_nil))))) jms_nil)))
    (jss_cons (js_if (jt_w (jw_and (jt_cmp (d_eq hr.u64) (jv 5) (je_ofL (jl_lst ja_nil))) (jw_and1 (jt_cmp (d_eq hr.u64) (jv 6) (je_ofL (jl_lst ja_nil)))))) (jss_one (js_ret (je_call (m := []) F_sums_of hr rfl g_sums_of k_sums_of b_sums_of (ja_cons (jv 3) (ja_cons (jv 4) ja_nil))))) jss_nil)
    (jss_cons (js_if (jt_w (jw_or (jt_cmp (d_eq hr.u64) (jv 5) (je_ofL (jl_lst ja_nil))) (jw_or1 (jt_cmp (d_eq hr.u64) (jv 6) (je_ofL (jl_lst ja_nil)))))) (jss_one (js_ret (je_tup (ja_cons (je_glob (v := .str "steps") rfl c_STEPS ⟨_, rfl⟩ (fun _ _ => .str _)) (ja_cons (je_ifE (jt_cmp (d_eq hr.u64) (jv 5) (je_ofL (jl_lst ja_nil))) (jv 3) (jv 4)) ja_nil))))) jss_nil)
    (jss_cons (js_if (jt_w (jw_and (jt_cmp (d_eq hr.u64) (jv 5) (jv 6)) (jw_and (jt_cmp (d_eq hr.u64) (je_fn c_len rfl z_len boot_len (ja_cons (jv 5) ja_nil)) je_int) (jw_and1 (jt_val (je_call (m := []) F_is_sum hr rfl g_is_sum k_is_sum b_is_sum (ja_cons (je_ix d_ix (je_ix d_ix (jv 0) je_int (fun _ _ => rfl)) (je_ix d_ix (jv 5) je_int (fun _ _ => rfl)) (fun _ _ => rfl)) (ja_cons (je_ix d_ix (je_ix d_ix (jv 0) je_int (fun _ _ => rfl)) (je_ix d_ix (jv 5) je_int (fun _ _ => rfl)) (fun _ _ => rfl)) (ja_cons (je_ix d_ix (jv 1) (je_ix d_ix (jv 5) je_int (fun _ _ => rfl)) (fun _ _ => rfl)) ja_nil))))))))) (jss_one (js_ret (je_tup (ja_cons (je_glob (v := .str "steps") rfl c_STEPS ⟨_, rfl⟩ (fun _ _ => .str _)) (ja_cons (je_call (m := []) F_joint hr rfl g_joint k_joint b_joint (ja_cons (jv 3) (ja_cons (jv 4) ja_nil))) ja_nil))))) jss_nil)
    (jss_one (js_ret (je_tup (ja_cons (je_glob (v := .str "none") rfl c_NONE ⟨_, rfl⟩ (fun _ _ => .str _)) ja_nil)))))))))
set_option maxHeartbeats 0 in
theorem ok_floors {P : Program} {w : World} {K : PySem.W.Frag} {mg : Str → Option Value} {base : Heap} {f : Addr} {fd : FuncData} (F : Fun K "floors" "floors" s_floors f fd)  : FnG P w K mg base CX0 1 f fd ["many", "by", "step", "begin"] (liftSp K sp_floors) := by
  have nd := sc_floors.nd
  refine okD (wb := w_floors) F sc_floors ln_floors (fun cdv A outer s H E hr => ?_) rd_floors
  exact (jss_cons (jset 4 nd (jm_e je_int))
    (jss_cons (js_while PassesOwn.never (jt_cmp d_gt (jv 0) je_int) (jss_cons (jaug 4 nd (je_op d_addB (je_op d_mulT (je_op d_div (je_op d_mulT (jv 0) (je_op d_subB (jv 0) je_int)) je_int) (je_op d_div (jv 2) (jv 1))) (je_op d_mulT (jv 0) (je_op d_div (jv 3) (jv 1)))) d_iadd)
    (jss_cons (jpar (i := 2) (j := 3) rfl nd rfl rfl (by decide) (jms_cons (jm_e (je_op d_mod (jv 2) (jv 1))) (jms_cons (jm_e (je_op d_mod (jv 3) (jv 1))) jms_nil)))
    (jss_cons (jset 5 nd (jm_e (je_op d_addB (je_op d_mulT (jv 2) (jv 0)) (jv 3))))
    (jss_cons (jpar (i := 0) (j := 3) rfl nd rfl rfl (by decide) (jms_cons (jm_e (je_op d_div (jv 5) (jv 1))) (jms_cons (jm_e (je_op d_mod (jv 5) (jv 1))) jms_nil)))
    (jss_one (jpar (i := 1) (j := 2) rfl nd rfl rfl (by decide) (jms_cons (jm_e (jv 2)) (jms_cons (jm_e (jv 1)) jms_nil)))))))))
    (jss_one (js_ret (jv 4)))))
set_option maxHeartbeats 0 in
theorem ok_count_sums {P : Program} {w : World} {K : PySem.W.Frag} {mg : Str → Option Value} {base : Heap} {f : Addr} {fd : FuncData} (F : Fun K "count_sums" "count_sums" s_count_sums f fd) (z_min : mg "min" = none) {f_floors : Addr} {fd_floors : FuncData} (F_floors : FnG P w K mg base CX0 1 f_floors fd_floors ["many", "by", "step", "begin"] (liftSp K sp_floors)) (g_floors : mg "floors" = some (.ref f_floors)) (k_floors : PySem.W.keepIn K (.ref f_floors) = true) (b_floors : Binds K fd_floors ["many", "by", "step", "begin"] []) {f_common : Addr} {fd_common : FuncData} (F_common : FnG P w K mg base CX0 1 f_common fd_common ["one", "other"] (liftSp K sp_common)) (g_common : mg "common" = some (.ref f_common)) (k_common : PySem.W.keepIn K (.ref f_common) = true) (b_common : Binds K fd_common ["one", "other"] []) : FnG P w K mg base CX0 2 f fd ["one", "other", "most"] (liftSp K sp_count_sums) := by
  have nd := sc_count_sums.nd
  replace F_floors := F_floors.mono (show 1 ≤ 1 by decide)
  replace F_common := F_common.mono (show 1 ≤ 1 by decide)
  refine okD (wb := w_count_sums) F sc_count_sums ln_count_sums (fun cdv A outer s H E hr => ?_) rd_count_sums
  exact (jss_cons (jset 3 nd (jm_e (je_call (m := []) F_common hr rfl g_common k_common b_common (ja_cons (jv 0) (ja_cons (jv 1) ja_nil)))))
    (jss_cons (jpar3 (i := 0) (j := 1) (l := 2) rfl nd rfl rfl rfl (by decide) (by decide) (by decide) (jms_cons (jm_e (je_op d_div (jv 0) (jv 3))) (jms_cons (jm_e (je_op d_div (jv 1) (jv 3))) (jms_cons (jm_e (je_op d_div (jv 2) (jv 3))) jms_nil))))
    (jss_cons (jset 4 nd (jm_e (je_fn (c_min2 rfl) rfl z_min boot_min (ja_cons (je_op d_subB (jv 1) je_int) (ja_cons (je_op d_div (jv 2) (jv 0)) ja_nil)))))
    (jss_one (js_ret (je_op d_addB (je_call (m := []) F_floors hr rfl g_floors k_floors b_floors (ja_cons (je_op d_addB (jv 4) je_int) (ja_cons (jv 1) (ja_cons (jv 0) (ja_cons (je_op d_subB (jv 2) (je_op d_mulT (jv 0) (jv 4))) ja_nil))))) (jv 4)))))))
set_option maxHeartbeats 0 in
theorem ok_count_by {P : Program} {w : World} {K : PySem.W.Frag} {mg : Str → Option Value} {base : Heap} {f : Addr} {fd : FuncData} (F : Fun K "count_by" "count_by" s_count_by f fd) {f_count_sums : Addr} {fd_count_sums : FuncData} (F_count_sums : FnG P w K mg base CX0 2 f_count_sums fd_count_sums ["one", "other", "most"] (liftSp K sp_count_sums)) (g_count_sums : mg "count_sums" = some (.ref f_count_sums)) (k_count_sums : PySem.W.keepIn K (.ref f_count_sums) = true) (b_count_sums : Binds K fd_count_sums ["one", "other", "most"] []) : FnG P w K mg base CX0 3 f fd ["way", "most"] (liftSp K sp_count_by) := by
  have nd := sc_count_by.nd
  replace F_count_sums := F_count_sums.mono (show 2 ≤ 2 by decide)
  refine okD (wb := w_count_by) F sc_count_by ln_count_by (fun cdv A outer s H E hr => ?_) rd_count_by
  exact (jss_one (js_match rfl hr.u64 nd (jv 0) (CsOk.seq' (PtOk.str (PtOk.cap2 .nil)) (jss_one (js_ret (je_op d_div (jv 1) (jv 2)))) (CsOk.seq' (PtOk.str (PtOk.cap2 (PtOk.cap2 .nil))) (jss_one (js_ret (je_call (m := []) F_count_sums hr rfl g_count_sums k_count_sums b_count_sums (ja_cons (jv 3) (ja_cons (jv 4) (ja_cons (jv 1) ja_nil)))))) (CsOk.wild (jss_one (js_ret je_int)))))))
set_option maxHeartbeats 0 in
theorem ok_count_along {P : Program} {w : World} {K : PySem.W.Frag} {mg : Str → Option Value} {base : Heap} {f : Addr} {fd : FuncData} (F : Fun K "count_along" "count_along" s_count_along f fd) {f_count_by : Addr} {fd_count_by : FuncData} (F_count_by : FnG P w K mg base CX0 3 f_count_by fd_count_by ["way", "most"] (liftSp K sp_count_by)) (g_count_by : mg "count_by" = some (.ref f_count_by)) (k_count_by : PySem.W.keepIn K (.ref f_count_by) = true) (b_count_by : Binds K fd_count_by ["way", "most"] []) {f_along : Addr} {fd_along : FuncData} (F_along : FnG P w K mg base CX0 4 f_along fd_along ["pair", "box", "axis"] (liftSp K sp_along)) (g_along : mg "along" = some (.ref f_along)) (k_along : PySem.W.keepIn K (.ref f_along) = true) (b_along : Binds K fd_along ["pair", "box", "axis"] []) : FnG P w K mg base CX0 5 f fd ["pair", "box", "axis", "most"] (liftSp K sp_count_along) := by
  have nd := sc_count_along.nd
  replace F_count_by := F_count_by.mono (show 3 ≤ 4 by decide)
  replace F_along := F_along.mono (show 4 ≤ 4 by decide)
  refine okD (wb := w_count_along) F sc_count_along ln_count_along (fun cdv A outer s H E hr => ?_) rd_count_along
  exact (jss_one (js_ret (je_call (m := []) F_count_by hr rfl g_count_by k_count_by b_count_by (ja_cons (je_call (m := []) F_along hr rfl g_along k_along b_along (ja_cons (jv 0) (ja_cons (jv 1) (ja_cons (jv 2) ja_nil)))) (ja_cons (jv 3) ja_nil)))))
set_option maxHeartbeats 0 in
theorem ok_least_with {P : Program} {w : World} {K : PySem.W.Frag} {mg : Str → Option Value} {base : Heap} {f : Addr} {fd : FuncData} (F : Fun K "least_with" "least_with" s_least_with f fd)  : FnL P w K mg base 1 f fd ["is_so", "most"] sp_least_with := by
  have nd := sc_least_with.nd
  refine okL (wb := w_least_with) F sc_least_with ln_least_with (fun cdv A outer s H f m tl hr act => ?_) rd_least_with
  exact (jss_cons (jpar (i := 2) (j := 3) rfl nd rfl rfl (by decide) (jms_cons (jm_e je_int) (jms_cons (jm_e (jv 1)) jms_nil)))
    (jss_cons (js_while PassesOwn.never (jt_cmp d_lt (jv 2) (jv 3)) (jss_cons (jset 4 nd (jm_e (je_op d_div (je_op d_addB (jv 2) (jv 3)) je_int)))
    (jss_one (js_asgG (je_ifE (jt_val (act.je (i := 0) rfl (.inl rfl) (ja_cons (jv 4) ja_nil))) (je_tup (ja_cons (jv 2) (ja_cons (jv 4) ja_nil))) (je_tup (ja_cons (je_op d_addB (jv 4) je_int) (ja_cons (jv 3) ja_nil)))) (jg_tup rfl (jgs_cons (jgn 2 nd) (jgs_cons (jgn 3 nd) jgs_nil)) (gs_lenN (gs_lenN gs_len0)))))))
    (jss_one (js_ret (jv 2)))))
set_option maxHeartbeats 0 in
theorem ok_sum_at {P : Program} {w : World} {K : PySem.W.Frag} {mg : Str → Option Value} {base : Heap} {f : Addr} {fd : FuncData} (F : Fun K "sum_at" "sum_at" s_sum_at f fd) {f_count_sums : Addr} {fd_count_sums : FuncData} (F_count_sums : FnG P w K mg base CX0 2 f_count_sums fd_count_sums ["one", "other", "most"] (liftSp K sp_count_sums)) (g_count_sums : mg "count_sums" = some (.ref f_count_sums)) (k_count_sums : PySem.W.keepIn K (.ref f_count_sums) = true) (b_count_sums : Binds K fd_count_sums ["one", "other", "most"] []) {f_least_with : Addr} {fd_least_with : FuncData} (F_least_with : FnL P w K mg base 1 f_least_with fd_least_with ["is_so", "most"] sp_least_with) (g_least_with : mg "least_with" = some (.ref f_least_with)) (k_least_with : PySem.W.keepIn K (.ref f_least_with) = true) (b_least_with : Binds K fd_least_with ["is_so", "most"] []) {f_joint : Addr} {fd_joint : FuncData} (F_joint : FnG P w K mg base CX0 2 f_joint fd_joint ["one", "other"] (liftSp K sp_joint)) (g_joint : mg "joint" = some (.ref f_joint)) (k_joint : PySem.W.keepIn K (.ref f_joint) = true) (b_joint : Binds K fd_joint ["one", "other"] []) {f_common : Addr} {fd_common : FuncData} (F_common : FnG P w K mg base CX0 1 f_common fd_common ["one", "other"] (liftSp K sp_common)) (g_common : mg "common" = some (.ref f_common)) (k_common : PySem.W.keepIn K (.ref f_common) = true) (b_common : Binds K fd_common ["one", "other"] []) {c_sum_at P_sum_at : Addr} (tb_sum_at : LamX.TabB base mg c_sum_at P_sum_at) (hc_sum_at : fd.code = .ref c_sum_at) (tm_sum_at : (P_sum_at, (envOfC "sum_at" (defScope s_sum_at) 0 0 .none).qual ++ "<lambda>") ∈ Tb.T) (tu_sum_at : ∀ p ∈ Tb.T, p.1 = P_sum_at → p.2 = (envOfC "sum_at" (defScope s_sum_at) 0 0 .none).qual ++ "<lambda>") : FnG P w K mg base CX0 5 f fd ["low", "high", "number"] (liftSp K sp_sum_at) := by
  have nd := sc_sum_at.nd
  have G_count_sums := F_count_sums.mono (show 2 ≤ 2 by decide)
  replace F_count_sums := F_count_sums.mono (show 2 ≤ 4 by decide)
  replace F_least_with := F_least_with.mono (show 1 ≤ 4 by decide)
  replace F_joint := F_joint.mono (show 2 ≤ 4 by decide)
  replace F_common := F_common.mono (show 1 ≤ 4 by decide)
  refine okDc (c := c_sum_at) (wb := w_sum_at) F hc_sum_at sc_sum_at ln_sum_at (fun A outer s H E hr => ?_) rd_sum_at
  exact (jss_cons (jset 3 nd (jm_e (je_op d_addB (je_call (m := []) F_joint hr rfl g_joint k_joint b_joint (ja_cons (jv 0) (ja_cons (jv 1) ja_nil))) (je_op d_mulT (je_call (m := []) F_common hr rfl g_common k_common b_common (ja_cons (jv 0) (ja_cons (jv 1) ja_nil))) (je_op d_addB (jv 2) je_int)))))
    (jss_one (js_ret (je_lam (N := ["side", "number", "low", "high"]) (lps := ["side"]) (fr := ["number", "low", "high"]) (js := [2, 0, 1]) (j := 2) F_least_with hr (by decide) rfl g_least_with k_least_with b_least_with tb_sum_at rfl tm_sum_at tu_sum_at rfl (NdefX.nscope_by (by decide +kernel)) (NdefX.ndef_free (sc := defScope s_sum_at) (fr := ["number", "low", "high"]) (by decide +kernel)) (NdefX.ndef_fr (sc := defScope s_sum_at) (by decide +kernel)) rfl (fun _ _ _ _ _ _ us hl => match us, hl with | [_], _ => rfl) (fun _ _ _ _ _ _ hr => (je_cmp d_gt (je_call (m := []) G_count_sums hr rfl g_count_sums k_count_sums b_count_sums (ja_cons (jv 2) (ja_cons (jv 3) (ja_cons (jv 0) ja_nil)))) (jv 1))) (ja_cons (jv 3) ja_nil)))))
set_option maxHeartbeats 0 in
theorem ok_numbered {P : Program} {w : World} {K : PySem.W.Frag} {mg : Str → Option Value} {base : Heap} {f : Addr} {fd : FuncData} (F : Fun K "numbered" "numbered" s_numbered f fd) {f_sum_at : Addr} {fd_sum_at : FuncData} (F_sum_at : FnG P w K mg base CX0 5 f_sum_at fd_sum_at ["low", "high", "number"] (liftSp K sp_sum_at)) (g_sum_at : mg "sum_at" = some (.ref f_sum_at)) (k_sum_at : PySem.W.keepIn K (.ref f_sum_at) = true) (b_sum_at : Binds K fd_sum_at ["low", "high", "number"] []) : FnG P w K mg base CX0 6 f fd ["way", "number"] (liftSp K sp_numbered) := by
  have nd := sc_numbered.nd
  replace F_sum_at := F_sum_at.mono (show 5 ≤ 5 by decide)
  refine okD (wb := w_numbered) F sc_numbered ln_numbered (fun cdv A outer s H E hr => ?_) rd_numbered
  exact (jss_one (js_match rfl hr.u64 nd (jv 0) (CsOk.seq' (PtOk.str (PtOk.cap2 .nil)) (jss_one (js_ret (je_op d_mulT (jv 2) (je_op d_addB (jv 1) je_int)))) (CsOk.seq' (PtOk.str (PtOk.cap2 (PtOk.cap2 .nil))) (jss_one (js_ret (je_call (m := []) F_sum_at hr rfl g_sum_at k_sum_at b_sum_at (ja_cons (jv 3) (ja_cons (jv 4) (ja_cons (jv 1) ja_nil)))))) (CsOk.wild (jss_one (js_ret je_non)))))))
set_option maxHeartbeats 0 in
theorem ok_side_at {P : Program} {w : World} {K : PySem.W.Frag} {mg : Str → Option Value} {base : Heap} {f : Addr} {fd : FuncData} (F : Fun K "side_at" "side_at" s_side_at f fd) {f_numbered : Addr} {fd_numbered : FuncData} (F_numbered : FnG P w K mg base CX0 6 f_numbered fd_numbered ["way", "number"] (liftSp K sp_numbered)) (g_numbered : mg "numbered" = some (.ref f_numbered)) (k_numbered : PySem.W.keepIn K (.ref f_numbered) = true) (b_numbered : Binds K fd_numbered ["way", "number"] []) {f_along : Addr} {fd_along : FuncData} (F_along : FnG P w K mg base CX0 4 f_along fd_along ["pair", "box", "axis"] (liftSp K sp_along)) (g_along : mg "along" = some (.ref f_along)) (k_along : PySem.W.keepIn K (.ref f_along) = true) (b_along : Binds K fd_along ["pair", "box", "axis"] []) : FnG P w K mg base CX0 7 f fd ["pair", "box", "axis", "number"] (liftSp K sp_side_at) := by
  have nd := sc_side_at.nd
  replace F_numbered := F_numbered.mono (show 6 ≤ 6 by decide)
  replace F_along := F_along.mono (show 4 ≤ 6 by decide)
  refine okD (wb := w_side_at) F sc_side_at ln_side_at (fun cdv A outer s H E hr => ?_) rd_side_at
  exact (jss_one (js_ret (je_call (m := []) F_numbered hr rfl g_numbered k_numbered b_numbered (ja_cons (je_call (m := []) F_along hr rfl g_along k_along b_along (ja_cons (jv 0) (ja_cons (jv 1) (ja_cons (jv 2) ja_nil)))) (ja_cons (jv 3) ja_nil)))))
set_option maxHeartbeats 0 in
theorem ok_side_number {P : Program} {w : World} {K : PySem.W.Frag} {mg : Str → Option Value} {base : Heap} {f : Addr} {fd : FuncData} (F : Fun K "side_number" "side_number" s_side_number f fd) {f_count_by : Addr} {fd_count_by : FuncData} (F_count_by : FnG P w K mg base CX0 3 f_count_by fd_count_by ["way", "most"] (liftSp K sp_count_by)) (g_count_by : mg "count_by" = some (.ref f_count_by)) (k_count_by : PySem.W.keepIn K (.ref f_count_by) = true) (b_count_by : Binds K fd_count_by ["way", "most"] []) {f_along : Addr} {fd_along : FuncData} (F_along : FnG P w K mg base CX0 4 f_along fd_along ["pair", "box", "axis"] (liftSp K sp_along)) (g_along : mg "along" = some (.ref f_along)) (k_along : PySem.W.keepIn K (.ref f_along) = true) (b_along : Binds K fd_along ["pair", "box", "axis"] []) : FnG P w K mg base CX0 5 f fd ["pair", "box", "axis", "side"] (liftSp K sp_side_number) := by
  have nd := sc_side_number.nd
  replace F_count_by := F_count_by.mono (show 3 ≤ 4 by decide)
  replace F_along := F_along.mono (show 4 ≤ 4 by decide)
  refine okD (wb := w_side_number) F sc_side_number ln_side_number (fun cdv A outer s H E hr => ?_) rd_side_number
  exact (jss_cons (jset 4 nd (jm_e (je_call (m := []) F_along hr rfl g_along k_along b_along (ja_cons (jv 0) (ja_cons (jv 1) (ja_cons (jv 2) ja_nil))))))
    (jss_cons (jset 5 nd (jm_e (je_call (m := []) F_count_by hr rfl g_count_by k_count_by b_count_by (ja_cons (jv 4) (ja_cons (je_op d_subB (jv 3) je_int) ja_nil)))))
    (jss_one (js_ret (je_ifE (jt_cmp d_gt (je_call (m := []) F_count_by hr rfl g_count_by k_count_by b_count_by (ja_cons (jv 4) (ja_cons (jv 3) ja_nil))) (jv 5)) (jv 5) je_non)))))
set_option maxHeartbeats 0 in
theorem ok_Ldeck {P : Program} {w : World} {K : PySem.W.Frag} {mg : Str → Option Value} {base : Heap} {f : Addr} {fd : FuncData} (F : Fun K "_law_deck" "_law_deck" s_Ldeck f fd) (z_abs : mg "abs" = none) (z_len : mg "len" = none) : FnG P w K mg base CX0 1 f fd ["_law_script"] (liftM K spDeck) := by
  have nd := sc_Ldeck.nd
  refine ok_deck F sc_Ldeck rfl rfl rfl (fun cdv A outer s H E hr => ?_) (fun cdv A outer s H E hr => ?_)
  · exact (js_setCL (i := 1) (own := [("_law_cell", 2)]) rfl nd rfl rfl (sw_true rfl rfl rfl (by decide +kernel)) (ji_seq (je_cut (jpv 0))) (blkOk_by (by kernel_rfl)) (by decide) (fun _ _ _ _ _ => (jgn 2 nd)) (fun _ _ _ _ _ => jts_nil) (fun _ _ _ _ _ => je_fn c_abs rfl z_abs boot_abs (ja_cons (jv 2) ja_nil)))
  · exact (jms_cons (jm_l (jl_comp (own := [("_law_cell", 2)]) rfl nd (ji_seq (jv 1)) (blkOk_by (by kernel_rfl)) (by decide) (fun _ _ _ _ _ => (jgn 2 nd)) (fun _ _ _ _ _ => jts_one (jt_cmp d_ge (jv 2) (je_op d_pow je_int je_int))) (fun _ _ _ _ _ => (jv 2))))
      (jms_cons (jm_l (jl_op d_addL (jv 1) (je_ofL (jl_lst (ja_cons (je_op d_add je_int (je_fn c_len rfl z_len boot_len (ja_cons (jv 1) ja_nil))) ja_nil))))) (jms_cons (jm_e je_int) jms_nil)))
set_option maxHeartbeats 0 in
theorem ok_Ldraw {P : Program} {w : World} {K : PySem.W.Frag} {mg : Str → Option Value} {base : Heap} {f : Addr} {fd : FuncData} (F : Fun K "_law_draw" "_law_draw" s_Ldraw f fd) (z_int : mg "int" = none) (z_len : mg "len" = none) : FnG P w K mg base CX0 1 f fd ["_law_deck_here", "_law_many"] (liftSp K spDraw) := by
  have nd := sc_Ldraw.nd
  refine ok_draw F sc_Ldraw rfl rfl fun cdv A outer s H E hr => ?_
  exact (jss_cons (js_if (jt_kne hr.u64 (jpv 0)) (jss_cons (jset 2 nd (jm_e (je_k00 (jpv 0)))) (jss_cons (js_put00 (jpv 0) (je_op d_div (jv 2) (jv 1)))
      (jss_cons (js_if (jt_cmp (d_eq hr.u64) (je_k00 (jpv 0)) je_int) (jss_one (js_pop0 (jpv 0) rfl (pe_bm PySem.F.plainAttrs_list PySem.F.slot_list_pop PySem.F.type_list_pop mt_popAt (pe_ix ix_list (jpv 0) pe_int (fun _ _ => rfl)) (pa_cons pe_int pa_nil)))) jss_nil)
      (jss_one (js_ret (je_op d_mod (je_ty c_int rfl z_int boot_int (ja_cons (jv 2) ja_nil)) (jv 1))))))) jss_nil)
    (jss_cons (js_put2 (jpv 0) (je_op d_add (je_k2 (jpv 0)) je_int))
    (jss_cons (jset 3 nd (jm_e (je_k1 (jpv 0) (je_op d_mod (je_ty c_int rfl z_int boot_int (ja_cons (je_k2 (jpv 0)) ja_nil)) (je_klen rfl z_len boot_len (jpv 0))) (fun _ _ => rfl))))
    (jss_cons (jset 4 nd (jm_e (je_op d_mod (je_ty c_int rfl z_int boot_int (ja_cons (je_op d_add (je_op d_mod (je_ty c_int rfl z_int boot_int (ja_cons (jv 3) ja_nil)) je_int) (je_op d_mul je_int (je_k2 (jpv 0)))) ja_nil)) je_int)))
    (jss_cons (jset 4 nd (jm_e (je_op d_mod (je_ty c_int rfl z_int boot_int (ja_cons (je_op d_add (je_op d_mul (jv 4) (jv 4)) (je_op d_mul je_int (je_k2 (jpv 0)))) ja_nil)) je_int)))
    (jss_one (js_ret (je_op d_mod (je_op d_div (je_op d_mod (je_ty c_int rfl z_int boot_int (ja_cons (je_op d_mul (jv 4) (jv 4)) ja_nil)) je_int) je_int) (jv 1)))))))))
set_option maxHeartbeats 0 in
theorem ok_Lone {P : Program} {w : World} {K : PySem.W.Frag} {mg : Str → Option Value} {base : Heap} {f : Addr} {fd : FuncData} (F : Fun K "_law_one" "_law_one" s_Lone f fd) (z_len : mg "len" = none) {f_Ldraw : Addr} {fd_Ldraw : FuncData} (F_Ldraw : FnG P w K mg base CX0 1 f_Ldraw fd_Ldraw ["_law_deck_here", "_law_many"] (liftSp K sp_Ldraw)) (g_Ldraw : mg "_law_draw" = some (.ref f_Ldraw)) (k_Ldraw : PySem.W.keepIn K (.ref f_Ldraw) = true) (b_Ldraw : Binds K fd_Ldraw ["_law_deck_here", "_law_many"] []) : FnG P w K mg base CX0 2 f fd ["_law_deck_here", "_law_items"] (liftSp K sp_Lone) := by
  have nd := sc_Lone.nd
  replace F_Ldraw := F_Ldraw.mono (show 1 ≤ 1 by decide)
  refine okD (wb := w_Lone) F sc_Lone ln_Lone (fun cdv A outer s H E hr => ?_) rd_Lone
  exact (jss_one (js_ret (je_ix d_ix (jv 1) (je_call (m := [true, false]) F_Ldraw hr rfl g_Ldraw k_Ldraw b_Ldraw (ja_cons (jv 0) (ja_cons (je_fn c_len rfl z_len boot_len (ja_cons (jv 1) ja_nil)) ja_nil))) (fun _ _ => rfl))))
set_option maxHeartbeats 0 in
theorem ok_Lwith {P : Program} {w : World} {K : PySem.W.Frag} {mg : Str → Option Value} {base : Heap} {f : Addr} {fd : FuncData} (F : Fun K "_law_with" "_law_with" s_Lwith f fd)  : FnG P w K mg base CX0 1 f fd ["_law_box_here", "_law_axis", "_law_side"] (liftSp K sp_Lwith) := by
  have nd := sc_Lwith.nd
  refine okD (wb := w_Lwith) F sc_Lwith ln_Lwith (fun cdv A outer s H E hr => ?_) rd_Lwith
  exact (jss_one (js_ret (je_op d_addB (je_op d_addB (je_sl d_sl (jv 0) jo_none (jo_some (jv 1))) (je_tup (ja_cons (jv 2) ja_nil))) (je_sl d_sl (jv 0) (jo_some (je_op d_addB (jv 1) je_int)) jo_none))))
set_option maxHeartbeats 0 in
theorem ok_Lrests {P : Program} {w : World} {K : PySem.W.Frag} {mg : Str → Option Value} {base : Heap} {f : Addr} {fd : FuncData} (F : Fun K "_law_rests" "_law_rests" s_Lrests f fd) (z_len : mg "len" = none) (z_range : mg "range" = none) (z_int : mg "int" = none) : FnG P w K mg base CX0 1 f fd ["_law_brick", "_law_box_here"] (liftSp K sp_Lrests) := by
  have nd := sc_Lrests.nd
  refine okD (wb := w_Lrests) F sc_Lrests ln_Lrests (fun cdv A outer s H E hr => ?_) rd_Lrests
  exact (jss_one (js_ret (je_ofL (jl_comp (own := [("_law_axis", 2)]) rfl nd (ji_range1 rfl z_range (ja_cons (je_fn c_len rfl z_len boot_len (ja_cons (jv 1) ja_nil)) ja_nil)) (blkOk_by (by kernel_rfl)) (by decide) (fun _ _ _ _ _ => (jgn 2 nd)) (fun _ _ _ _ _ => (jts_one (jt_cmp (d_ne hr.u64) (je_op d_mod (je_ty c_int rfl z_int boot_int (ja_cons (je_ix d_ix (jv 1) (jv 2) (fun _ _ => rfl)) ja_nil)) (je_ix d_ix (jv 0) (jv 2) (fun _ _ => rfl))) je_int))) (fun _ _ _ _ _ => (jv 2))))))
set_option maxHeartbeats 0 in
theorem ok_Lfar_sum {P : Program} {w : World} {K : PySem.W.Frag} {mg : Str → Option Value} {base : Heap} {f : Addr} {fd : FuncData} (F : Fun K "_law_far_sum" "_law_far_sum" s_Lfar_sum f fd) (z_range : mg "range" = none) (z_int : mg "int" = none) : FnG P w K mg base CX0 1 f fd ["_law_side", "_law_one_here", "_law_other"] (liftSp K sp_Lfar_sum) := by
  have nd := sc_Lfar_sum.nd
  refine okD (wb := w_Lfar_sum) F sc_Lfar_sum ln_Lfar_sum (fun cdv A outer s H E hr => ?_) rd_Lfar_sum
  exact (jss_one (js_ret (je_cmp (d_ne hr.u64) (je_ofL (jl_comp (own := [("_law_k", 3)]) rfl nd (ji_range1 rfl z_range (ja_cons (jv 2) ja_nil)) (blkOk_by (by kernel_rfl)) (by decide) (fun _ _ _ _ _ => (jgn 3 nd)) (fun _ _ _ _ _ => (jts_one (jt_w (jw_and (jt_cmp d_le (je_op d_mulT (jv 3) (jv 1)) (jv 0)) (jw_and1 (jt_cmp (d_eq hr.u64) (je_op d_mod (je_ty c_int rfl z_int boot_int (ja_cons (je_op d_subB (jv 0) (je_op d_mulT (jv 3) (jv 1))) ja_nil)) (jv 2)) je_int)))))) (fun _ _ _ _ _ => (jv 3)))) (je_ofL (jl_lst ja_nil)))))
set_option maxHeartbeats 0 in
theorem ok_Lfar_filled {P : Program} {w : World} {K : PySem.W.Frag} {mg : Str → Option Value} {base : Heap} {f : Addr} {fd : FuncData} (F : Fun K "_law_far_filled" "_law_far_filled" s_Lfar_filled f fd) (z_len : mg "len" = none) {f_Lfar_sum : Addr} {fd_Lfar_sum : FuncData} (F_Lfar_sum : FnG P w K mg base CX0 1 f_Lfar_sum fd_Lfar_sum ["_law_side", "_law_one_here", "_law_other"] (liftSp K sp_Lfar_sum)) (g_Lfar_sum : mg "_law_far_sum" = some (.ref f_Lfar_sum)) (k_Lfar_sum : PySem.W.keepIn K (.ref f_Lfar_sum) = true) (b_Lfar_sum : Binds K fd_Lfar_sum ["_law_side", "_law_one_here", "_law_other"] []) {f_Lrests : Addr} {fd_Lrests : FuncData} (F_Lrests : FnG P w K mg base CX0 1 f_Lrests fd_Lrests ["_law_brick", "_law_box_here"] (liftSp K sp_Lrests)) (g_Lrests : mg "_law_rests" = some (.ref f_Lrests)) (k_Lrests : PySem.W.keepIn K (.ref f_Lrests) = true) (b_Lrests : Binds K fd_Lrests ["_law_brick", "_law_box_here"] []) : FnG P w K mg base CX0 2 f fd ["_law_pair_here", "_law_box_here"] (liftSp K sp_Lfar_filled) := by
  have nd := sc_Lfar_filled.nd
  replace F_Lfar_sum := F_Lfar_sum.mono (show 1 ≤ 1 by decide)
  replace F_Lrests := F_Lrests.mono (show 1 ≤ 1 by decide)
  refine okD (wb := w_Lfar_filled) F sc_Lfar_filled ln_Lfar_filled (fun cdv A outer s H E hr => ?_) rd_Lfar_filled
  exact (jss_cons (jpar (i := 2) (j := 3) rfl nd rfl rfl (by decide) (jms_cons (jm_e (je_call (m := []) F_Lrests hr rfl g_Lrests k_Lrests b_Lrests (ja_cons (je_ix d_ix (jv 0) je_int (fun _ _ => rfl)) (ja_cons (jv 1) ja_nil)))) (jms_cons (jm_e (je_call (m := []) F_Lrests hr rfl g_Lrests k_Lrests b_Lrests (ja_cons (je_ix d_ix (jv 0) je_int (fun _ _ => rfl)) (ja_cons (jv 1) ja_nil)))) jms_nil)))
    (jss_cons (js_if (jt_w (jw_or (jt_cmp (d_eq hr.u64) (jv 2) (je_ofL (jl_lst ja_nil))) (jw_or1 (jt_cmp (d_eq hr.u64) (jv 3) (je_ofL (jl_lst ja_nil)))))) (jss_one (js_ret je_bl)) jss_nil)
    (jss_cons (js_if (jt_w (jw_or (jt_cmp d_gt (je_fn c_len rfl z_len boot_len (ja_cons (jv 2) ja_nil)) je_int) (jw_or1 (jt_cmp (d_ne hr.u64) (jv 2) (jv 3))))) (jss_one (js_ret je_bl)) jss_nil)
    (jss_one (js_ret (je_call (m := []) F_Lfar_sum hr rfl g_Lfar_sum k_Lfar_sum b_Lfar_sum (ja_cons (je_ix d_ix (jv 1) (je_ix d_ix (jv 2) je_int (fun _ _ => rfl)) (fun _ _ => rfl)) (ja_cons (je_ix d_ix (je_ix d_ix (jv 0) je_int (fun _ _ => rfl)) (je_ix d_ix (jv 2) je_int (fun _ _ => rfl)) (fun _ _ => rfl)) (ja_cons (je_ix d_ix (je_ix d_ix (jv 0) je_int (fun _ _ => rfl)) (je_ix d_ix (jv 2) je_int (fun _ _ => rfl)) (fun _ _ => rfl)) ja_nil)))))))))
set_option maxHeartbeats 0 in
theorem ok_Lsides {P : Program} {w : World} {K : PySem.W.Frag} {mg : Str → Option Value} {base : Heap} {f : Addr} {fd : FuncData} (F : Fun K "_law_sides" "_law_sides" s_Lsides f fd) (z_range : mg "range" = none) (z_tuple : mg "tuple" = none) {f_Ldraw : Addr} {fd_Ldraw : FuncData} (F_Ldraw : FnG P w K mg base CX0 1 f_Ldraw fd_Ldraw ["_law_deck_here", "_law_many"] (liftSp K sp_Ldraw)) (g_Ldraw : mg "_law_draw" = some (.ref f_Ldraw)) (k_Ldraw : PySem.W.keepIn K (.ref f_Ldraw) = true) (b_Ldraw : Binds K fd_Ldraw ["_law_deck_here", "_law_many"] []) : FnG P w K mg base CX0 2 f fd ["_law_deck_here", "_law_axes", "_law_most"] (liftSp K sp_Lsides) := by
  have nd := sc_Lsides.nd
  replace F_Ldraw := F_Ldraw.mono (show 1 ≤ 1 by decide)
  refine okD (wb := w_Lsides) F sc_Lsides ln_Lsides (fun cdv A outer s H E hr => ?_) rd_Lsides
  exact (jss_one (js_ret (je_ty c_tup rfl z_tuple boot_tuple (ja_cons (je_ofL (jl_comp (own := [("_law_axis", 3)]) rfl nd (ji_range1 rfl z_range (ja_cons (jv 1) ja_nil)) (blkOk_by (by kernel_rfl)) (by decide) (fun _ _ _ _ _ => (jgn 3 nd)) (fun _ _ _ _ _ => jts_nil) (fun _ _ _ _ _ => (je_op d_addB je_int (je_call (m := [true, false]) F_Ldraw hr rfl g_Ldraw k_Ldraw b_Ldraw (ja_cons (jv 0) (ja_cons (jv 2) ja_nil))))))) ja_nil))))
set_option maxHeartbeats 0 in
theorem ok_Lpair {P : Program} {w : World} {K : PySem.W.Frag} {mg : Str → Option Value} {base : Heap} {f : Addr} {fd : FuncData} (F : Fun K "_law_pair" "_law_pair" s_Lpair f fd) {f_Ldraw : Addr} {fd_Ldraw : FuncData} (F_Ldraw : FnG P w K mg base CX0 1 f_Ldraw fd_Ldraw ["_law_deck_here", "_law_many"] (liftSp K sp_Ldraw)) (g_Ldraw : mg "_law_draw" = some (.ref f_Ldraw)) (k_Ldraw : PySem.W.keepIn K (.ref f_Ldraw) = true) (b_Ldraw : Binds K fd_Ldraw ["_law_deck_here", "_law_many"] []) {f_Lsides : Addr} {fd_Lsides : FuncData} (F_Lsides : FnG P w K mg base CX0 2 f_Lsides fd_Lsides ["_law_deck_here", "_law_axes", "_law_most"] (liftSp K sp_Lsides)) (g_Lsides : mg "_law_sides" = some (.ref f_Lsides)) (k_Lsides : PySem.W.keepIn K (.ref f_Lsides) = true) (b_Lsides : Binds K fd_Lsides ["_law_deck_here", "_law_axes", "_law_most"] []) : FnG P w K mg base CX0 3 f fd ["_law_deck_here", "_law_axes", "_law_most"] (liftSp K sp_Lpair) := by
  have nd := sc_Lpair.nd
  replace F_Ldraw := F_Ldraw.mono (show 1 ≤ 2 by decide)
  replace F_Lsides := F_Lsides.mono (show 2 ≤ 2 by decide)
  refine okD (wb := w_Lpair) F sc_Lpair ln_Lpair (fun cdv A outer s H E hr => ?_) rd_Lpair
  exact (jss_cons (jpar (i := 3) (j := 4) rfl nd rfl rfl (by decide) (jms_cons (jm_e (je_call (m := [true, false, false]) F_Lsides hr rfl g_Lsides k_Lsides b_Lsides (ja_cons (jv 0) (ja_cons (jv 1) (ja_cons (jv 2) ja_nil))))) (jms_cons (jm_e (je_call (m := [true, false, false]) F_Lsides hr rfl g_Lsides k_Lsides b_Lsides (ja_cons (jv 0) (ja_cons (jv 1) (ja_cons (jv 2) ja_nil))))) jms_nil)))
    (jss_cons (js_if (jt_cmp (d_eq hr.u64) (je_call (m := [true, false]) F_Ldraw hr rfl g_Ldraw k_Ldraw b_Ldraw (ja_cons (jv 0) (ja_cons je_int ja_nil))) je_int) (jss_cons (jset 5 nd (jm_e (je_call (m := [true, false]) F_Ldraw hr rfl g_Ldraw k_Ldraw b_Ldraw (ja_cons (jv 0) (ja_cons (jv 1) ja_nil)))))
    (jss_one (jset 4 nd (jm_e (je_op d_addB (je_op d_addB (je_sl d_sl (jv 3) jo_none (jo_some (jv 5))) (je_tup (ja_cons (je_op d_addB je_int (je_call (m := [true, false]) F_Ldraw hr rfl g_Ldraw k_Ldraw b_Ldraw (ja_cons (jv 0) (ja_cons (jv 2) ja_nil)))) ja_nil))) (je_sl d_sl (jv 3) (jo_some (je_op d_addB (jv 5) je_int)) jo_none)))))) jss_nil)
    (jss_one (js_ret (je_tup (ja_cons (jv 3) (ja_cons (jv 4) ja_nil)))))))
set_option maxHeartbeats 0 in
theorem ok_Lvolume {P : Program} {w : World} {K : PySem.W.Frag} {mg : Str → Option Value} {base : Heap} {f : Addr} {fd : FuncData} (F : Fun K "_law_volume" "_law_volume" s_Lvolume f fd)  : FnG P w K mg base CX0 1 f fd ["_law_sides_here"] (liftSp K sp_Lvolume) := by
  have nd := sc_Lvolume.nd
  refine okD (wb := w_Lvolume) F sc_Lvolume ln_Lvolume (fun cdv A outer s H E hr => ?_) rd_Lvolume
  exact (jss_cons (jset 1 nd (jm_e je_int))
    (jss_cons (js_for PassesOwn.never rfl (ji_seq (jv 0)) (jgn 2 nd) (jss_one (jset 1 nd (jm_e (je_op d_mulT (jv 1) (jv 2))))))
    (jss_one (js_ret (jv 1)))))
set_option maxHeartbeats 0 in
theorem ok_Ldivisor {P : Program} {w : World} {K : PySem.W.Frag} {mg : Str → Option Value} {base : Heap} {f : Addr} {fd : FuncData} (F : Fun K "_law_divisor" "_law_divisor" s_Ldivisor f fd)  : FnG P w K mg base CX0 1 f fd ["_law_one_here", "_law_other"] (liftSp K sp_common) := by
  have nd := sc_Ldivisor.nd
  refine okD (wb := w_common) F sc_Ldivisor ln_common (fun cdv A outer s H E hr => ?_) rd_common
  exact (jss_cons (js_while PassesOwn.never (jt_cmp d_gt (jv 1) je_int) (jss_one (jpar (i := 0) (j := 1) rfl nd rfl rfl (by decide) (jms_cons (jm_e (jv 1)) (jms_cons (jm_e (je_op d_mod (jv 0) (jv 1))) jms_nil)))))
    (jss_one (js_ret (jv 0))))
set_option maxHeartbeats 0 in
theorem ok_Llcm {P : Program} {w : World} {K : PySem.W.Frag} {mg : Str → Option Value} {base : Heap} {f : Addr} {fd : FuncData} (F : Fun K "_law_lcm" "_law_lcm" s_Llcm f fd) {f_Ldivisor : Addr} {fd_Ldivisor : FuncData} (F_Ldivisor : FnG P w K mg base CX0 1 f_Ldivisor fd_Ldivisor ["_law_one_here", "_law_other"] (liftSp K sp_common)) (g_Ldivisor : mg "_law_divisor" = some (.ref f_Ldivisor)) (k_Ldivisor : PySem.W.keepIn K (.ref f_Ldivisor) = true) (b_Ldivisor : Binds K fd_Ldivisor ["_law_one_here", "_law_other"] []) : FnG P w K mg base CX0 2 f fd ["_law_one_here", "_law_other"] (liftSp K sp_Llcm) := by
  have nd := sc_Llcm.nd
  replace F_Ldivisor := F_Ldivisor.mono (show 1 ≤ 1 by decide)
  refine okD (wb := w_Llcm) F sc_Llcm ln_Llcm (fun cdv A outer s H E hr => ?_) rd_Llcm
  exact (jss_one (js_ret (je_op d_div (je_op d_mulT (jv 0) (jv 1)) (je_call (m := []) F_Ldivisor hr rfl g_Ldivisor k_Ldivisor b_Ldivisor (ja_cons (jv 0) (ja_cons (jv 1) ja_nil))))))
set_option maxHeartbeats 0 in
theorem ok_Lcut_box {P : Program} {w : World} {K : PySem.W.Frag} {mg : Str → Option Value} {base : Heap} {f : Addr} {fd : FuncData} (F : Fun K "_law_cut_box" "_law_cut_box" s_Lcut_box f fd) (z_tuple : mg "tuple" = none) (z_len : mg "len" = none) (z_range : mg "range" = none) {f_Ldraw : Addr} {fd_Ldraw : FuncData} (F_Ldraw : FnG P w K mg base CX0 1 f_Ldraw fd_Ldraw ["_law_deck_here", "_law_many"] (liftSp K sp_Ldraw)) (g_Ldraw : mg "_law_draw" = some (.ref f_Ldraw)) (k_Ldraw : PySem.W.keepIn K (.ref f_Ldraw) = true) (b_Ldraw : Binds K fd_Ldraw ["_law_deck_here", "_law_many"] []) {f_Llcm : Addr} {fd_Llcm : FuncData} (F_Llcm : FnG P w K mg base CX0 2 f_Llcm fd_Llcm ["_law_one_here", "_law_other"] (liftSp K sp_Llcm)) (g_Llcm : mg "_law_lcm" = some (.ref f_Llcm)) (k_Llcm : PySem.W.keepIn K (.ref f_Llcm) = true) (b_Llcm : Binds K fd_Llcm ["_law_one_here", "_law_other"] []) : FnG P w K mg base CX0 3 f fd ["_law_deck_here", "_law_pair_here", "_law_many"] (liftSp K sp_Lcut_box) := by
  have nd := sc_Lcut_box.nd
  replace F_Ldraw := F_Ldraw.mono (show 1 ≤ 2 by decide)
  replace F_Llcm := F_Llcm.mono (show 2 ≤ 2 by decide)
  refine okD (wb := w_Lcut_box) F sc_Lcut_box ln_Lcut_box (fun cdv A outer s H E hr => ?_) rd_Lcut_box
  exact (jss_cons (jpar (i := 3) (j := 4) rfl nd rfl rfl (by decide) (jms_cons (jm_e (je_call (m := [true, false]) F_Ldraw hr rfl g_Ldraw k_Ldraw b_Ldraw (ja_cons (jv 0) (ja_cons (je_fn c_len rfl z_len boot_len (ja_cons (je_ix d_ix (jv 1) je_int (fun _ _ => rfl)) ja_nil)) ja_nil)))) (jms_cons (jm_l (jl_lst ja_nil)) jms_nil)))
    (jss_cons (js_for PassesOwn.never rfl (ji_range1 rfl z_range (ja_cons (je_fn c_len rfl z_len boot_len (ja_cons (je_ix d_ix (jv 1) je_int (fun _ _ => rfl)) ja_nil)) ja_nil)) (jgn 5 nd) (jss_one (js_append (jpv 4) (je_call (m := []) F_Llcm hr rfl g_Llcm k_Llcm b_Llcm (ja_cons (je_ix d_ix (je_ix d_ix (jv 1) je_int (fun _ _ => rfl)) (jv 5) (fun _ _ => rfl)) (ja_cons (je_ix d_ix (je_ix d_ix (jv 1) je_int (fun _ _ => rfl)) (jv 5) (fun _ _ => rfl)) ja_nil))) rfl rfl (pe_bm PySem.F.plainAttrs_list PySem.F.slot_list_append PySem.F.type_list_append mt_append (jpv 4) (pa_cons (je_call (m := []) F_Llcm hr rfl g_Llcm k_Llcm b_Llcm (ja_cons (je_ix d_ix (je_ix d_ix (jv 1) je_int (fun _ _ => rfl)) (jv 5) (fun _ _ => rfl)) (ja_cons (je_ix d_ix (je_ix d_ix (jv 1) je_int (fun _ _ => rfl)) (jv 5) (fun _ _ => rfl)) ja_nil))) pa_nil)))))
    (jss_cons (js_put (jv 3) (je_op d_addB (je_op d_mulT (je_ix d_ix (je_ix d_ix (jv 1) je_int (fun _ _ => rfl)) (jv 3) (fun _ _ => rfl)) (je_call (m := [true, false]) F_Ldraw hr rfl g_Ldraw k_Ldraw b_Ldraw (ja_cons (jv 0) (ja_cons (jv 2) ja_nil)))) (je_op d_mulT (je_ix d_ix (je_ix d_ix (jv 1) je_int (fun _ _ => rfl)) (jv 3) (fun _ _ => rfl)) (je_op d_addB je_int (je_call (m := [true, false]) F_Ldraw hr rfl g_Ldraw k_Ldraw b_Ldraw (ja_cons (jv 0) (ja_cons (jv 2) ja_nil)))))) (ps_asg (je_op d_addB (je_op d_mulT (je_ix d_ix (je_ix d_ix (jv 1) je_int (fun _ _ => rfl)) (jv 3) (fun _ _ => rfl)) (je_call (m := [true, false]) F_Ldraw hr rfl g_Ldraw k_Ldraw b_Ldraw (ja_cons (jv 0) (ja_cons (jv 2) ja_nil)))) (je_op d_mulT (je_ix d_ix (je_ix d_ix (jv 1) je_int (fun _ _ => rfl)) (jv 3) (fun _ _ => rfl)) (je_op d_addB je_int (je_call (m := [true, false]) F_Ldraw hr rfl g_Ldraw k_Ldraw b_Ldraw (ja_cons (jv 0) (ja_cons (jv 2) ja_nil)))))) (pg_sub (jpv 4) (jv 3) set_list)))
    (jss_one (js_ret (je_ty c_tup rfl z_tuple boot_tuple (ja_cons (jv 4) ja_nil)))))))
set_option maxHeartbeats 0 in
theorem ok_Lplain_box {P : Program} {w : World} {K : PySem.W.Frag} {mg : Str → Option Value} {base : Heap} {f : Addr} {fd : FuncData} (F : Fun K "_law_plain_box" "_law_plain_box" s_Lplain_box f fd) (z_tuple : mg "tuple" = none) (z_list : mg "list" = none) {f_Ldraw : Addr} {fd_Ldraw : FuncData} (F_Ldraw : FnG P w K mg base CX0 1 f_Ldraw fd_Ldraw ["_law_deck_here", "_law_many"] (liftSp K sp_Ldraw)) (g_Ldraw : mg "_law_draw" = some (.ref f_Ldraw)) (k_Ldraw : PySem.W.keepIn K (.ref f_Ldraw) = true) (b_Ldraw : Binds K fd_Ldraw ["_law_deck_here", "_law_many"] []) {f_Lone : Addr} {fd_Lone : FuncData} (F_Lone : FnG P w K mg base CX0 2 f_Lone fd_Lone ["_law_deck_here", "_law_items"] (liftSp K sp_Lone)) (g_Lone : mg "_law_one" = some (.ref f_Lone)) (k_Lone : PySem.W.keepIn K (.ref f_Lone) = true) (b_Lone : Binds K fd_Lone ["_law_deck_here", "_law_items"] []) : FnG P w K mg base CX0 3 f fd ["_law_deck_here", "_law_pair_here", "_law_many"] (liftSp K sp_Lplain_box) := by
  have nd := sc_Lplain_box.nd
  replace F_Ldraw := F_Ldraw.mono (show 1 ≤ 2 by decide)
  replace F_Lone := F_Lone.mono (show 2 ≤ 2 by decide)
  refine okD (wb := w_Lplain_box) F sc_Lplain_box ln_Lplain_box (fun cdv A outer s H E hr => ?_) rd_Lplain_box
  exact (jss_cons (jset 3 nd (jm_e (je_call (m := [true, false]) F_Lone hr rfl g_Lone k_Lone b_Lone (ja_cons (jv 0) (ja_cons (je_ofL (jl_ty c_lst rfl z_list boot_list (ja_cons (jv 1) ja_nil))) ja_nil)))))
    (jss_one (js_ret (je_ty c_tup rfl z_tuple boot_tuple (ja_cons (je_ofL (jl_comp (own := [("_law_side", 4)]) rfl nd (ji_seq (jv 3)) (blkOk_by (by kernel_rfl)) (by decide) (fun _ _ _ _ _ => (jgn 4 nd)) (fun _ _ _ _ _ => jts_nil) (fun _ _ _ _ _ => (je_op d_mulT (jv 4) (je_op d_addB je_int (je_call (m := [true, false]) F_Ldraw hr rfl g_Ldraw k_Ldraw b_Ldraw (ja_cons (jv 0) (ja_cons (jv 2) ja_nil)))))))) ja_nil)))))
set_option maxHeartbeats 0 in
theorem ok_Lbox {P : Program} {w : World} {K : PySem.W.Frag} {mg : Str → Option Value} {base : Heap} {f : Addr} {fd : FuncData} (F : Fun K "_law_box" "_law_box" s_Lbox f fd) (z_len : mg "len" = none) (z_range : mg "range" = none) (z_max : mg "max" = none) {f_Lvolume : Addr} {fd_Lvolume : FuncData} (F_Lvolume : FnG P w K mg base CX0 1 f_Lvolume fd_Lvolume ["_law_sides_here"] (liftSp K sp_Lvolume)) (g_Lvolume : mg "_law_volume" = some (.ref f_Lvolume)) (k_Lvolume : PySem.W.keepIn K (.ref f_Lvolume) = true) (b_Lvolume : Binds K fd_Lvolume ["_law_sides_here"] []) {f_Lone : Addr} {fd_Lone : FuncData} (F_Lone : FnG P w K mg base CX0 2 f_Lone fd_Lone ["_law_deck_here", "_law_items"] (liftSp K sp_Lone)) (g_Lone : mg "_law_one" = some (.ref f_Lone)) (k_Lone : PySem.W.keepIn K (.ref f_Lone) = true) (b_Lone : Binds K fd_Lone ["_law_deck_here", "_law_items"] []) {f_Lplain_box : Addr} {fd_Lplain_box : FuncData} (F_Lplain_box : FnG P w K mg base CX0 3 f_Lplain_box fd_Lplain_box ["_law_deck_here", "_law_pair_here", "_law_many"] (liftSp K sp_Lplain_box)) (g_Lplain_box : mg "_law_plain_box" = some (.ref f_Lplain_box)) (k_Lplain_box : PySem.W.keepIn K (.ref f_Lplain_box) = true) (b_Lplain_box : Binds K fd_Lplain_box ["_law_deck_here", "_law_pair_here", "_law_many"] []) {f_Lcut_box : Addr} {fd_Lcut_box : FuncData} (F_Lcut_box : FnG P w K mg base CX0 3 f_Lcut_box fd_Lcut_box ["_law_deck_here", "_law_pair_here", "_law_many"] (liftSp K sp_Lcut_box)) (g_Lcut_box : mg "_law_cut_box" = some (.ref f_Lcut_box)) (k_Lcut_box : PySem.W.keepIn K (.ref f_Lcut_box) = true) (b_Lcut_box : Binds K fd_Lcut_box ["_law_deck_here", "_law_pair_here", "_law_many"] []) {f_Ldraw : Addr} {fd_Ldraw : FuncData} (F_Ldraw : FnG P w K mg base CX0 1 f_Ldraw fd_Ldraw ["_law_deck_here", "_law_many"] (liftSp K sp_Ldraw)) (g_Ldraw : mg "_law_draw" = some (.ref f_Ldraw)) (k_Ldraw : PySem.W.keepIn K (.ref f_Ldraw) = true) (b_Ldraw : Binds K fd_Ldraw ["_law_deck_here", "_law_many"] []) {f_Lsides : Addr} {fd_Lsides : FuncData} (F_Lsides : FnG P w K mg base CX0 2 f_Lsides fd_Lsides ["_law_deck_here", "_law_axes", "_law_most"] (liftSp K sp_Lsides)) (g_Lsides : mg "_law_sides" = some (.ref f_Lsides)) (k_Lsides : PySem.W.keepIn K (.ref f_Lsides) = true) (b_Lsides : Binds K fd_Lsides ["_law_deck_here", "_law_axes", "_law_most"] []) : FnG P w K mg base CX0 4 f fd ["_law_deck_here", "_law_pair_here", "_law_most", "_law_cells"] (liftSp K sp_Lbox) := by
  have nd := sc_Lbox.nd
  replace F_Lvolume := F_Lvolume.mono (show 1 ≤ 3 by decide)
  replace F_Lone := F_Lone.mono (show 2 ≤ 3 by decide)
  replace F_Lplain_box := F_Lplain_box.mono (show 3 ≤ 3 by decide)
  replace F_Lcut_box := F_Lcut_box.mono (show 3 ≤ 3 by decide)
  replace F_Ldraw := F_Ldraw.mono (show 1 ≤ 3 by decide)
  replace F_Lsides := F_Lsides.mono (show 2 ≤ 3 by decide)
  refine okD (wb := w_Lbox) F sc_Lbox ln_Lbox (fun cdv A outer s H E hr => ?_) rd_Lbox
  exact (jss_cons (js_for PassesOwn.never rfl (ji_range1 rfl z_range (ja_cons je_int ja_nil)) (jgn 4 nd) (jss_cons (jset 5 nd (jm_e (je_call (m := [true, false]) F_Ldraw hr rfl g_Ldraw k_Ldraw b_Ldraw (ja_cons (jv 0) (ja_cons je_int ja_nil)))))
    (jss_cons (jset 6 nd (jm_e (je_call (m := [true, false, false]) F_Lsides hr rfl g_Lsides k_Lsides b_Lsides (ja_cons (jv 0) (ja_cons (je_fn c_len rfl z_len boot_len (ja_cons (je_ix d_ix (jv 1) je_int (fun _ _ => rfl)) ja_nil)) (ja_cons (jv 2) ja_nil))))))
    (jss_cons (js_if (jt_cmp (d_eq hr.u64) (jv 5) je_int) (jss_one (jset 6 nd (jm_e (je_call (m := [true, false, false]) F_Lcut_box hr rfl g_Lcut_box k_Lcut_box b_Lcut_box (ja_cons (jv 0) (ja_cons (jv 1) (ja_cons je_int ja_nil))))))) jss_nil)
    (jss_cons (js_if (jt_cmp (d_eq hr.u64) (jv 5) je_int) (jss_one (jset 6 nd (jm_e (je_call (m := [true, false, false]) F_Lplain_box hr rfl g_Lplain_box k_Lplain_box b_Lplain_box (ja_cons (jv 0) (ja_cons (jv 1) (ja_cons je_int ja_nil))))))) jss_nil)
    (jss_cons (js_if (jt_cmp (d_eq hr.u64) (jv 5) je_int) (jss_cons (jset 7 nd (jm_e (je_call (m := [true, false]) F_Ldraw hr rfl g_Ldraw k_Ldraw b_Ldraw (ja_cons (jv 0) (ja_cons (je_fn c_len rfl z_len boot_len (ja_cons (jv 6) ja_nil)) ja_nil)))))
    (jss_cons (jset 8 nd (jm_e (je_call (m := [true, false]) F_Lone hr rfl g_Lone k_Lone b_Lone (ja_cons (jv 0) (ja_cons (je_ofL (jl_lst (ja_cons (je_call (m := [true, false, false]) F_Lcut_box hr rfl g_Lcut_box k_Lcut_box b_Lcut_box (ja_cons (jv 0) (ja_cons (jv 1) (ja_cons je_int ja_nil)))) (ja_cons (je_call (m := [true, false, false]) F_Lplain_box hr rfl g_Lplain_box k_Lplain_box b_Lplain_box (ja_cons (jv 0) (ja_cons (jv 1) (ja_cons je_int ja_nil)))) ja_nil)))) ja_nil)))))
    (jss_one (jset 6 nd (jm_e (je_op d_addB (je_op d_addB (je_sl d_sl (jv 8) jo_none (jo_some (jv 7))) (je_tup (ja_cons (je_fn (c_max2 rfl) rfl z_max boot_max (ja_cons je_int (ja_cons (je_op d_addB (je_ix d_ix (jv 8) (jv 7) (fun _ _ => rfl)) (je_call (m := [true, false]) F_Lone hr rfl g_Lone k_Lone b_Lone (ja_cons (jv 0) (ja_cons (je_ofL (jl_lst (ja_cons (je_neg je_int) (ja_cons je_int (ja_cons je_int ja_nil))))) ja_nil)))) ja_nil))) ja_nil))) (je_sl d_sl (jv 8) (jo_some (je_op d_addB (jv 7) je_int)) jo_none))))))) jss_nil)
    (jss_one (js_if (jt_cmp d_le (je_call (m := []) F_Lvolume hr rfl g_Lvolume k_Lvolume b_Lvolume (ja_cons (jv 6) ja_nil)) (jv 3)) (jss_one (js_ret (jv 6))) jss_nil))))))))
    (jss_one (js_ret (je_op d_mulT (je_tup (ja_cons je_int ja_nil)) (je_fn c_len rfl z_len boot_len (ja_cons (je_ix d_ix (jv 1) je_int (fun _ _ => rfl)) ja_nil))))))
set_option maxHeartbeats 0 in
theorem ok_Ltask {P : Program} {w : World} {K : PySem.W.Frag} {mg : Str → Option Value} {base : Heap} {f : Addr} {fd : FuncData} (F : Fun K "_law_task" "_law_task" s_Ltask f fd) {f_Ldraw : Addr} {fd_Ldraw : FuncData} (F_Ldraw : FnG P w K mg base CX0 1 f_Ldraw fd_Ldraw ["_law_deck_here", "_law_many"] (liftSp K sp_Ldraw)) (g_Ldraw : mg "_law_draw" = some (.ref f_Ldraw)) (k_Ldraw : PySem.W.keepIn K (.ref f_Ldraw) = true) (b_Ldraw : Binds K fd_Ldraw ["_law_deck_here", "_law_many"] []) {f_Lbox : Addr} {fd_Lbox : FuncData} (F_Lbox : FnG P w K mg base CX0 4 f_Lbox fd_Lbox ["_law_deck_here", "_law_pair_here", "_law_most", "_law_cells"] (liftSp K sp_Lbox)) (g_Lbox : mg "_law_box" = some (.ref f_Lbox)) (k_Lbox : PySem.W.keepIn K (.ref f_Lbox) = true) (b_Lbox : Binds K fd_Lbox ["_law_deck_here", "_law_pair_here", "_law_most", "_law_cells"] []) {f_Lpair : Addr} {fd_Lpair : FuncData} (F_Lpair : FnG P w K mg base CX0 3 f_Lpair fd_Lpair ["_law_deck_here", "_law_axes", "_law_most"] (liftSp K sp_Lpair)) (g_Lpair : mg "_law_pair" = some (.ref f_Lpair)) (k_Lpair : PySem.W.keepIn K (.ref f_Lpair) = true) (b_Lpair : Binds K fd_Lpair ["_law_deck_here", "_law_axes", "_law_most"] []) : FnG P w K mg base CX0 5 f fd ["_law_deck_here"] (liftSp K sp_Ltask) := by
  have nd := sc_Ltask.nd
  replace F_Ldraw := F_Ldraw.mono (show 1 ≤ 4 by decide)
  replace F_Lbox := F_Lbox.mono (show 4 ≤ 4 by decide)
  replace F_Lpair := F_Lpair.mono (show 3 ≤ 4 by decide)
  refine okD (wb := w_Ltask) F sc_Ltask ln_Ltask (fun cdv A outer s H E hr => ?_) rd_Ltask
  exact (jss_cons (jset 1 nd (jm_e (je_op d_addB je_int (je_call (m := [true, false]) F_Ldraw hr rfl g_Ldraw k_Ldraw b_Ldraw (ja_cons (jv 0) (ja_cons je_int ja_nil))))))
    (jss_cons (jset 2 nd (jm_e (je_call (m := [true, false, false]) F_Lpair hr rfl g_Lpair k_Lpair b_Lpair (ja_cons (jv 0) (ja_cons (jv 1) (ja_cons je_int ja_nil))))))
    (jss_one (js_ret (je_tup (ja_cons (jv 2) (ja_cons (je_call (m := [true, false, false, false]) F_Lbox hr rfl g_Lbox k_Lbox b_Lbox (ja_cons (jv 0) (ja_cons (jv 2) (ja_cons je_int (ja_cons (je_op d_pow je_int je_int) ja_nil))))) (ja_cons (je_call (m := [true, false]) F_Ldraw hr rfl g_Ldraw k_Ldraw b_Ldraw (ja_cons (jv 0) (ja_cons (jv 1) ja_nil))) ja_nil))))))))
set_option maxHeartbeats 0 in
theorem ok_Lfitting {P : Program} {w : World} {K : PySem.W.Frag} {mg : Str → Option Value} {base : Heap} {f : Addr} {fd : FuncData} (F : Fun K "_law_fitting" "_law_fitting" s_Lfitting f fd) (z_range : mg "range" = none) {f_Lfar_filled : Addr} {fd_Lfar_filled : FuncData} (F_Lfar_filled : FnG P w K mg base CX0 2 f_Lfar_filled fd_Lfar_filled ["_law_pair_here", "_law_box_here"] (liftSp K sp_Lfar_filled)) (g_Lfar_filled : mg "_law_far_filled" = some (.ref f_Lfar_filled)) (k_Lfar_filled : PySem.W.keepIn K (.ref f_Lfar_filled) = true) (b_Lfar_filled : Binds K fd_Lfar_filled ["_law_pair_here", "_law_box_here"] []) {f_Lwith : Addr} {fd_Lwith : FuncData} (F_Lwith : FnG P w K mg base CX0 1 f_Lwith fd_Lwith ["_law_box_here", "_law_axis", "_law_side"] (liftSp K sp_Lwith)) (g_Lwith : mg "_law_with" = some (.ref f_Lwith)) (k_Lwith : PySem.W.keepIn K (.ref f_Lwith) = true) (b_Lwith : Binds K fd_Lwith ["_law_box_here", "_law_axis", "_law_side"] []) : FnG P w K mg base CX0 3 f fd ["_law_pair_here", "_law_box_here", "_law_axis", "_law_most"] (liftSp K sp_Lfitting) := by
  have nd := sc_Lfitting.nd
  replace F_Lfar_filled := F_Lfar_filled.mono (show 2 ≤ 2 by decide)
  replace F_Lwith := F_Lwith.mono (show 1 ≤ 2 by decide)
  refine okD (wb := w_Lfitting) F sc_Lfitting ln_Lfitting (fun cdv A outer s H E hr => ?_) rd_Lfitting
  exact (jss_one (js_ret (je_ofL (jl_comp (own := [("_law_side", 4)]) rfl nd (ji_range2 rfl z_range (ja_cons je_int (ja_cons (je_op d_addB (jv 3) je_int) ja_nil))) (blkOk_by (by kernel_rfl)) (by decide) (fun _ _ _ _ _ => (jgn 4 nd)) (fun _ _ _ _ _ => (jts_one (jt_val (je_call (m := []) F_Lfar_filled hr rfl g_Lfar_filled k_Lfar_filled b_Lfar_filled (ja_cons (jv 0) (ja_cons (je_call (m := []) F_Lwith hr rfl g_Lwith k_Lwith b_Lwith (ja_cons (jv 1) (ja_cons (jv 2) (ja_cons (jv 4) ja_nil)))) ja_nil)))))) (fun _ _ _ _ _ => (jv 4))))))
set_option maxHeartbeats 0 in
theorem ok_next_side {P : Program} {w : World} {K : PySem.W.Frag} {mg : Str → Option Value} {base : Heap} {f : Addr} {fd : FuncData} (F : Fun K "next_side" "next_side" s_next_side f fd) {f_numbered : Addr} {fd_numbered : FuncData} (F_numbered : FnG P w K mg base CX0 6 f_numbered fd_numbered ["way", "number"] (liftSp K sp_numbered)) (g_numbered : mg "numbered" = some (.ref f_numbered)) (k_numbered : PySem.W.keepIn K (.ref f_numbered) = true) (b_numbered : Binds K fd_numbered ["way", "number"] []) {f_count_by : Addr} {fd_count_by : FuncData} (F_count_by : FnG P w K mg base CX0 3 f_count_by fd_count_by ["way", "most"] (liftSp K sp_count_by)) (g_count_by : mg "count_by" = some (.ref f_count_by)) (k_count_by : PySem.W.keepIn K (.ref f_count_by) = true) (b_count_by : Binds K fd_count_by ["way", "most"] []) {f_along : Addr} {fd_along : FuncData} (F_along : FnG P w K mg base CX0 4 f_along fd_along ["pair", "box", "axis"] (liftSp K sp_along)) (g_along : mg "along" = some (.ref f_along)) (k_along : PySem.W.keepIn K (.ref f_along) = true) (b_along : Binds K fd_along ["pair", "box", "axis"] []) : FnG P w K mg base CX0 7 f fd ["pair", "box", "axis", "least"] (liftSp K sp_next_side) := by
  have nd := sc_next_side.nd
  replace F_numbered := F_numbered.mono (show 6 ≤ 6 by decide)
  replace F_count_by := F_count_by.mono (show 3 ≤ 6 by decide)
  replace F_along := F_along.mono (show 4 ≤ 6 by decide)
  refine okD (wb := w_next_side) F sc_next_side ln_next_side (fun cdv A outer s H E hr => ?_) rd_next_side
  exact (jss_cons (jset 4 nd (jm_e (je_call (m := []) F_along hr rfl g_along k_along b_along (ja_cons (jv 0) (ja_cons (jv 1) (ja_cons (jv 2) ja_nil))))))
    (jss_one (js_ret (je_call (m := []) F_numbered hr rfl g_numbered k_numbered b_numbered (ja_cons (jv 4) (ja_cons (je_call (m := []) F_count_by hr rfl g_count_by k_count_by b_count_by (ja_cons (jv 4) (ja_cons (je_op d_subB (jv 3) je_int) ja_nil))) ja_nil))))))
set_option maxHeartbeats 0 in
theorem ok_sorts {P : Program} {w : World} {K : PySem.W.Frag} {mg : Str → Option Value} {base : Heap} {f : Addr} {fd : FuncData} (F : Fun K "sorts" "sorts" s_sorts f fd) {f_count_sums : Addr} {fd_count_sums : FuncData} (F_count_sums : FnG P w K mg base CX0 2 f_count_sums fd_count_sums ["one", "other", "most"] (liftSp K sp_count_sums)) (g_count_sums : mg "count_sums" = some (.ref f_count_sums)) (k_count_sums : PySem.W.keepIn K (.ref f_count_sums) = true) (b_count_sums : Binds K fd_count_sums ["one", "other", "most"] []) {f_joint : Addr} {fd_joint : FuncData} (F_joint : FnG P w K mg base CX0 2 f_joint fd_joint ["one", "other"] (liftSp K sp_joint)) (g_joint : mg "joint" = some (.ref f_joint)) (k_joint : PySem.W.keepIn K (.ref f_joint) = true) (b_joint : Binds K fd_joint ["one", "other"] []) : FnG P w K mg base CX0 3 f fd ["pair", "axis", "most"] (liftSp K sp_sorts) := by
  have nd := sc_sorts.nd
  replace F_count_sums := F_count_sums.mono (show 2 ≤ 2 by decide)
  replace F_joint := F_joint.mono (show 2 ≤ 2 by decide)
  refine okD (wb := w_sorts) F sc_sorts ln_sorts (fun cdv A outer s H E hr => ?_) rd_sorts
  exact (jss_cons (jpar (i := 3) (j := 4) rfl nd rfl rfl (by decide) (jms_cons (jm_e (je_ix d_ix (je_ix d_ix (jv 0) je_int (fun _ _ => rfl)) (jv 1) (fun _ _ => rfl))) (jms_cons (jm_e (je_ix d_ix (je_ix d_ix (jv 0) je_int (fun _ _ => rfl)) (jv 1) (fun _ _ => rfl))) jms_nil)))
    (jss_cons (jpar3 (i := 5) (j := 6) (l := 7) rfl nd rfl rfl rfl (by decide) (by decide) (by decide) (jms_cons (jm_e (je_op d_div (jv 2) (je_call (m := []) F_joint hr rfl g_joint k_joint b_joint (ja_cons (jv 3) (ja_cons (jv 4) ja_nil))))) (jms_cons (jm_e (je_op d_div (jv 2) (jv 3))) (jms_cons (jm_e (je_op d_div (jv 2) (jv 4))) jms_nil))))
    (jss_one (js_ret (je_ofL (jl_lst (ja_cons (jv 5) (ja_cons (je_op d_subB (jv 6) (jv 5)) (ja_cons (je_op d_subB (jv 7) (jv 5)) (ja_cons (je_op d_addB (je_op d_subB (je_op d_subB (je_call (m := []) F_count_sums hr rfl g_count_sums k_count_sums b_count_sums (ja_cons (jv 3) (ja_cons (jv 4) (ja_cons (jv 2) ja_nil)))) (jv 6)) (jv 7)) (jv 5)) ja_nil))))))))))
set_option maxHeartbeats 0 in
theorem ok_state_behind {P : Program} {w : World} {K : PySem.W.Frag} {mg : Str → Option Value} {base : Heap} {f : Addr} {fd : FuncData} (F : Fun K "state_behind" "state_behind" s_state_behind f fd) {t_DEAD : Tok} (c_DEAD : mg "DEAD" = some (.int 4 t_DEAD)) {t_FREE : Tok} (c_FREE : mg "FREE" = some (.int 0 t_FREE)) : FnG P w K mg base CX0 1 f fd ["state", "sort"] (liftSp K sp_state_behind) := by
  have nd := sc_state_behind.nd
  refine okD (wb := w_state_behind) F sc_state_behind ln_state_behind (fun cdv A outer s H E hr => ?_) rd_state_behind
  exact (jss_cons (js_if (jt_w (jw_or (jt_cmp (d_eq hr.u64) (jv 0) (je_glob (v := .int 0) rfl c_FREE ⟨_, rfl⟩ (fun _ _ => .int _))) (jw_or1 (jt_cmp (d_eq hr.u64) (jv 1) (je_glob (v := .int 0) rfl c_FREE ⟨_, rfl⟩ (fun _ _ => .int _)))))) (jss_one (js_ret (je_op d_addB (jv 0) (jv 1)))) jss_nil)
    (jss_one (js_ret (je_ifE (jt_w (jw_and (jt_cmp (d_eq hr.u64) (jv 0) (jv 1)) (jw_and1 (jt_cmp (d_ne hr.u64) (jv 0) je_int)))) (jv 0) (je_glob (v := .int 4) rfl c_DEAD ⟨_, rfl⟩ (fun _ _ => .int _))))))
set_option maxHeartbeats 0 in
theorem okN_ways_from {P : Program} {w : World} {K : PySem.W.Frag} {mg : Str → Option Value} {base : Heap} {f f2 : Addr} {fd fd2 : FuncData} (F : Fun K "ways_from" "ways_from" s_ways_from f fd) (F2 : Fun K "upto" "upto" s_upto f2 fd2) (z_len : mg "len" = none) (z_enumerate : mg "enumerate" = none) {t_DEAD : Tok} (c_DEAD : mg "DEAD" = some (.int 4 t_DEAD)) {f_sorts : Addr} {fd_sorts : FuncData} (F_sorts : FnG P w K mg base CX0 3 f_sorts fd_sorts ["pair", "axis", "most"] (liftSp K sp_sorts)) (g_sorts : mg "sorts" = some (.ref f_sorts)) (k_sorts : PySem.W.keepIn K (.ref f_sorts) = true) (b_sorts : Binds K fd_sorts ["pair", "axis", "most"] []) {f_state_behind : Addr} {fd_state_behind : FuncData} (F_state_behind : FnG P w K mg base CX0 1 f_state_behind fd_state_behind ["state", "sort"] (liftSp K sp_state_behind)) (g_state_behind : mg "state_behind" = some (.ref f_state_behind)) (k_state_behind : PySem.W.keepIn K (.ref f_state_behind) = true) (b_state_behind : Binds K fd_state_behind ["state", "sort"] []) (g_ways_from : mg "ways_from" = some (.ref f)) (k_ways_from : PySem.W.keepIn K (.ref f) = true) (b_ways_from : Binds K fd ["pair", "most", "axis", "state"] []) (g_upto : mg "upto" = some (.ref f2)) (k_upto : PySem.W.keepIn K (.ref f2) = true) (b_upto : Binds K fd2 ["pair", "most", "axis", "state", "side"] []) : ∀ n : Nat, FnG P w K mg base CX0 (4 + 2 * n) f fd ["pair", "most", "axis", "state"] (liftSp K (spN_ways_from n)) ∧ FnG P w K mg base CX0 (4 + 2 * n + 1) f2 fd2 ["pair", "most", "axis", "state", "side"] (liftSp K (spN_upto n)) := by
  have nd1 := sc_ways_from.nd
  have nd2 := sc_upto.nd
  have hp : ∀ m : Nat, FnG P w K mg base CX0 (4 + 2 * m) f fd ["pair", "most", "axis", "state"] (liftSp K (spN_ways_from m)) → FnG P w K mg base CX0 (4 + 2 * m + 1) f2 fd2 ["pair", "most", "axis", "state", "side"] (liftSp K (spN_upto m)) := fun m FP => by
    have F_ways_from := FP
    have nd := nd2
    replace F_sorts := F_sorts.mono (show 3 ≤ 4 + 2 * m by omega)
    replace F_state_behind := F_state_behind.mono (show 1 ≤ 4 + 2 * m by omega)
    refine okD (wb := w_upto (spN_ways_from m)) F2 sc_upto (ln_upto m) (fun cdv A outer s H E hr => ?_) (rd_upto m)
    exact (jss_cons (jset 5 nd (jm_e je_int))
    (jss_cons (js_for PassesOwn.never rfl (ji_enum rfl z_enumerate (ja_cons (je_call (m := []) F_sorts hr rfl g_sorts k_sorts b_sorts (ja_cons (jv 0) (ja_cons (jv 2) (ja_cons (jv 4) ja_nil)))) ja_nil)) (jg_tup rfl (jgs_cons (jgn 6 nd) (jgs_cons (jgn 7 nd) jgs_nil)) (gs_lenN (gs_lenN gs_len0))) (jss_one (js_if (jt_cmp d_gt (jv 7) je_int) (jss_one (jaug 5 nd (je_op d_mulT (jv 7) (je_call (m := []) F_ways_from hr rfl g_ways_from k_ways_from b_ways_from (ja_cons (jv 0) (ja_cons (jv 1) (ja_cons (je_op d_addB (jv 2) je_int) (ja_cons (je_call (m := []) F_state_behind hr rfl g_state_behind k_state_behind b_state_behind (ja_cons (jv 3) (ja_cons (jv 6) ja_nil))) ja_nil)))))) d_iadd)) jss_nil)))
    (jss_one (js_ret (jv 5)))))
  intro n
  induction n with
  | zero => exact ⟨fnG_none none_ways_from, hp 0 (fnG_none none_ways_from)⟩
  | succ n ih =>
    have q : FnG P w K mg base CX0 ((4 + 2 * n + 1) + 1) f fd ["pair", "most", "axis", "state"] (liftSp K (spN_ways_from (n + 1))) := by
      have F_upto := ih.2
      have nd := nd1
      refine okD (wb := w_ways_from (spN_upto n)) F sc_ways_from (ln_ways_from (n + 1)) (fun cdv A outer s H E hr => ?_) (rd_ways_from n)
      exact (jss_cons (js_if (jt_cmp (d_eq hr.u64) (jv 3) (je_glob (v := .int 4) rfl c_DEAD ⟨_, rfl⟩ (fun _ _ => .int _))) (jss_one (js_ret je_int)) jss_nil)
    (jss_cons (js_if (jt_cmp (d_eq hr.u64) (jv 2) (je_fn c_len rfl z_len boot_len (ja_cons (jv 1) ja_nil))) (jss_one (js_ret je_int)) jss_nil)
    (jss_one (js_ret (je_call (m := []) F_upto hr rfl g_upto k_upto b_upto (ja_cons (jv 0) (ja_cons (jv 1) (ja_cons (jv 2) (ja_cons (jv 3) (ja_cons (je_ix d_ix (jv 1) (jv 2) (fun _ _ => rfl)) ja_nil))))))))))
    exact ⟨q, hp (n + 1) q⟩
theorem ok_upto {P : Program} {w : World} {K : PySem.W.Frag} {mg : Str → Option Value} {base : Heap} {f f2 : Addr} {fd fd2 : FuncData} (F : Fun K "ways_from" "ways_from" s_ways_from f fd) (F2 : Fun K "upto" "upto" s_upto f2 fd2) (z_len : mg "len" = none) (z_enumerate : mg "enumerate" = none) {t_DEAD : Tok} (c_DEAD : mg "DEAD" = some (.int 4 t_DEAD)) {f_sorts : Addr} {fd_sorts : FuncData} (F_sorts : FnG P w K mg base CX0 3 f_sorts fd_sorts ["pair", "axis", "most"] (liftSp K sp_sorts)) (g_sorts : mg "sorts" = some (.ref f_sorts)) (k_sorts : PySem.W.keepIn K (.ref f_sorts) = true) (b_sorts : Binds K fd_sorts ["pair", "axis", "most"] []) {f_state_behind : Addr} {fd_state_behind : FuncData} (F_state_behind : FnG P w K mg base CX0 1 f_state_behind fd_state_behind ["state", "sort"] (liftSp K sp_state_behind)) (g_state_behind : mg "state_behind" = some (.ref f_state_behind)) (k_state_behind : PySem.W.keepIn K (.ref f_state_behind) = true) (b_state_behind : Binds K fd_state_behind ["state", "sort"] []) (g_ways_from : mg "ways_from" = some (.ref f)) (k_ways_from : PySem.W.keepIn K (.ref f) = true) (b_ways_from : Binds K fd ["pair", "most", "axis", "state"] []) (g_upto : mg "upto" = some (.ref f2)) (k_upto : PySem.W.keepIn K (.ref f2) = true) (b_upto : Binds K fd2 ["pair", "most", "axis", "state", "side"] []) : FnG P w K mg base CX0 17 f2 fd2 ["pair", "most", "axis", "state", "side"] (liftSp K sp_upto) := (okN_ways_from F F2 z_len z_enumerate c_DEAD F_sorts g_sorts k_sorts b_sorts F_state_behind g_state_behind k_state_behind b_state_behind g_ways_from k_ways_from b_ways_from g_upto k_upto b_upto 6).2
theorem ok_ways_from {P : Program} {w : World} {K : PySem.W.Frag} {mg : Str → Option Value} {base : Heap} {f f2 : Addr} {fd fd2 : FuncData} (F : Fun K "ways_from" "ways_from" s_ways_from f fd) (F2 : Fun K "upto" "upto" s_upto f2 fd2) (z_len : mg "len" = none) (z_enumerate : mg "enumerate" = none) {t_DEAD : Tok} (c_DEAD : mg "DEAD" = some (.int 4 t_DEAD)) {f_sorts : Addr} {fd_sorts : FuncData} (F_sorts : FnG P w K mg base CX0 3 f_sorts fd_sorts ["pair", "axis", "most"] (liftSp K sp_sorts)) (g_sorts : mg "sorts" = some (.ref f_sorts)) (k_sorts : PySem.W.keepIn K (.ref f_sorts) = true) (b_sorts : Binds K fd_sorts ["pair", "axis", "most"] []) {f_state_behind : Addr} {fd_state_behind : FuncData} (F_state_behind : FnG P w K mg base CX0 1 f_state_behind fd_state_behind ["state", "sort"] (liftSp K sp_state_behind)) (g_state_behind : mg "state_behind" = some (.ref f_state_behind)) (k_state_behind : PySem.W.keepIn K (.ref f_state_behind) = true) (b_state_behind : Binds K fd_state_behind ["state", "sort"] []) (g_ways_from : mg "ways_from" = some (.ref f)) (k_ways_from : PySem.W.keepIn K (.ref f) = true) (b_ways_from : Binds K fd ["pair", "most", "axis", "state"] []) (g_upto : mg "upto" = some (.ref f2)) (k_upto : PySem.W.keepIn K (.ref f2) = true) (b_upto : Binds K fd2 ["pair", "most", "axis", "state", "side"] []) : FnG P w K mg base CX0 16 f fd ["pair", "most", "axis", "state"] (liftSp K sp_ways_from) := (okN_ways_from F F2 z_len z_enumerate c_DEAD F_sorts g_sorts k_sorts b_sorts F_state_behind g_state_behind k_state_behind b_state_behind g_ways_from k_ways_from b_ways_from g_upto k_upto b_upto 6).1
set_option maxHeartbeats 0 in
theorem ok_count_boxes {P : Program} {w : World} {K : PySem.W.Frag} {mg : Str → Option Value} {base : Heap} {f : Addr} {fd : FuncData} (F : Fun K "count_boxes" "count_boxes" s_count_boxes f fd) {t_FREE : Tok} (c_FREE : mg "FREE" = some (.int 0 t_FREE)) {f_ways_from : Addr} {fd_ways_from : FuncData} (F_ways_from : FnG P w K mg base CX0 16 f_ways_from fd_ways_from ["pair", "most", "axis", "state"] (liftSp K sp_ways_from)) (g_ways_from : mg "ways_from" = some (.ref f_ways_from)) (k_ways_from : PySem.W.keepIn K (.ref f_ways_from) = true) (b_ways_from : Binds K fd_ways_from ["pair", "most", "axis", "state"] []) : FnG P w K mg base CX0 17 f fd ["pair", "most"] (liftSp K sp_count_boxes) := by
  have nd := sc_count_boxes.nd
  replace F_ways_from := F_ways_from.mono (show 16 ≤ 16 by decide)
  refine okD (wb := w_count_boxes) F sc_count_boxes ln_count_boxes (fun cdv A outer s H E hr => ?_) rd_count_boxes
  exact (jss_one (js_ret (je_call (m := []) F_ways_from hr rfl g_ways_from k_ways_from b_ways_from (ja_cons (jv 0) (ja_cons (jv 1) (ja_cons je_int (ja_cons (je_glob (v := .int 0) rfl c_FREE ⟨_, rfl⟩ (fun _ _ => .int _)) ja_nil)))))))
set_option maxHeartbeats 0 in
theorem ok_is_integer {P : Program} {w : World} {K : PySem.W.Frag} {mg : Str → Option Value} {base : Heap} {f : Addr} {fd : FuncData} (F : Fun K "is_integer" "is_integer" s_is_integer f fd) (z_isinstance : mg "isinstance" = none) (z_bool : mg "bool" = none) (z_int : mg "int" = none) : FnG P w K mg base CX0 1 f fd ["value", "low", "high"] (liftSp K sp_is_integer) := by
  have nd := sc_is_integer.nd
  refine okD (wb := w_is_integer) F sc_is_integer ln_is_integer (fun cdv A outer s H E hr => ?_) rd_is_integer
  exact (jss_one (js_ret (je_and (je_isi (T := "int") (by simp) rfl z_isinstance boot_isinstance rfl z_int boot_int (jv 0)) (je_and (je_not (je_isi (T := "bool") (by simp) rfl z_isinstance boot_isinstance rfl z_bool boot_bool (jv 0))) (je_one (je_chain d_le d_le (jv 1) (jv 0) (jv 2)))))))
set_option maxHeartbeats 0 in
theorem ok_sort_of {P : Program} {w : World} {K : PySem.W.Frag} {mg : Str → Option Value} {base : Heap} {f : Addr} {fd : FuncData} (F : Fun K "sort_of" "sort_of" s_sort_of f fd) (z_int : mg "int" = none) {t_DEAD : Tok} (c_DEAD : mg "DEAD" = some (.int 4 t_DEAD)) {f_is_sum : Addr} {fd_is_sum : FuncData} (F_is_sum : FnG P w K mg base CX0 3 f_is_sum fd_is_sum ["one", "other", "side"] (liftSp K sp_is_sum)) (g_is_sum : mg "is_sum" = some (.ref f_is_sum)) (k_is_sum : PySem.W.keepIn K (.ref f_is_sum) = true) (b_is_sum : Binds K fd_is_sum ["one", "other", "side"] []) : FnG P w K mg base CX0 4 f fd ["pair", "axis", "side"] (liftSp K sp_sort_of) := by
  have nd := sc_sort_of.nd
  replace F_is_sum := F_is_sum.mono (show 3 ≤ 3 by decide)
  refine okD (wb := w_sort_of) F sc_sort_of ln_sort_of (fun cdv A outer s H E hr => ?_) rd_sort_of
  exact (jss_cons (jpar (i := 3) (j := 4) rfl nd rfl rfl (by decide) (jms_cons (jm_e (je_ix d_ix (je_ix d_ix (jv 0) je_int (fun _ _ => rfl)) (jv 1) (fun _ _ => rfl))) (jms_cons (jm_e (je_ix d_ix (je_ix d_ix (jv 0) je_int (fun _ _ => rfl)) (jv 1) (fun _ _ => rfl))) jms_nil)))
    (jss_cons (js_if (jt_w (jw_or (jt_cmp (d_eq hr.u64) (je_op d_mod (jv 2) (jv 3)) je_int) (jw_or1 (jt_cmp (d_eq hr.u64) (je_op d_mod (jv 2) (jv 4)) je_int)))) (jss_one (js_ret (je_op d_addB (je_op d_mulT (je_ty c_int rfl z_int boot_int (ja_cons (je_cmp (d_ne hr.u64) (je_op d_mod (jv 2) (jv 3)) je_int) ja_nil)) je_int) (je_ty c_int rfl z_int boot_int (ja_cons (je_cmp (d_ne hr.u64) (je_op d_mod (jv 2) (jv 4)) je_int) ja_nil))))) jss_nil)
    (jss_one (js_ret (je_ifE (jt_val (je_call (m := []) F_is_sum hr rfl g_is_sum k_is_sum b_is_sum (ja_cons (jv 3) (ja_cons (jv 4) (ja_cons (jv 2) ja_nil))))) je_int (je_glob (v := .int 4) rfl c_DEAD ⟨_, rfl⟩ (fun _ _ => .int _)))))))
set_option maxHeartbeats 0 in
theorem ok_box_at {P : Program} {w : World} {K : PySem.W.Frag} {mg : Str → Option Value} {base : Heap} {f : Addr} {fd : FuncData} (F : Fun K "box_at" "box_at" s_box_at f fd) (z_enumerate : mg "enumerate" = none) {t_FREE : Tok} (c_FREE : mg "FREE" = some (.int 0 t_FREE)) {f_state_behind : Addr} {fd_state_behind : FuncData} (F_state_behind : FnG P w K mg base CX0 1 f_state_behind fd_state_behind ["state", "sort"] (liftSp K sp_state_behind)) (g_state_behind : mg "state_behind" = some (.ref f_state_behind)) (k_state_behind : PySem.W.keepIn K (.ref f_state_behind) = true) (b_state_behind : Binds K fd_state_behind ["state", "sort"] []) {f_sort_of : Addr} {fd_sort_of : FuncData} (F_sort_of : FnG P w K mg base CX0 4 f_sort_of fd_sort_of ["pair", "axis", "side"] (liftSp K sp_sort_of)) (g_sort_of : mg "sort_of" = some (.ref f_sort_of)) (k_sort_of : PySem.W.keepIn K (.ref f_sort_of) = true) (b_sort_of : Binds K fd_sort_of ["pair", "axis", "side"] []) {f_upto : Addr} {fd_upto : FuncData} (F_upto : FnG P w K mg base CX0 17 f_upto fd_upto ["pair", "most", "axis", "state", "side"] (liftSp K sp_upto)) (g_upto : mg "upto" = some (.ref f_upto)) (k_upto : PySem.W.keepIn K (.ref f_upto) = true) (b_upto : Binds K fd_upto ["pair", "most", "axis", "state", "side"] []) {f_least_with : Addr} {fd_least_with : FuncData} (F_least_with : FnL P w K mg base 1 f_least_with fd_least_with ["is_so", "most"] sp_least_with) (g_least_with : mg "least_with" = some (.ref f_least_with)) (k_least_with : PySem.W.keepIn K (.ref f_least_with) = true) (b_least_with : Binds K fd_least_with ["is_so", "most"] []) {f_is_integer : Addr} {fd_is_integer : FuncData} (F_is_integer : FnG P w K mg base CX0 1 f_is_integer fd_is_integer ["value", "low", "high"] (liftSp K sp_is_integer)) (g_is_integer : mg "is_integer" = some (.ref f_is_integer)) (k_is_integer : PySem.W.keepIn K (.ref f_is_integer) = true) (b_is_integer : Binds K fd_is_integer ["value", "low", "high"] []) {f_count_boxes : Addr} {fd_count_boxes : FuncData} (F_count_boxes : FnG P w K mg base CX0 17 f_count_boxes fd_count_boxes ["pair", "most"] (liftSp K sp_count_boxes)) (g_count_boxes : mg "count_boxes" = some (.ref f_count_boxes)) (k_count_boxes : PySem.W.keepIn K (.ref f_count_boxes) = true) (b_count_boxes : Binds K fd_count_boxes ["pair", "most"] []) {c_box_at P_box_at : Addr} (tb_box_at : LamX.TabB base mg c_box_at P_box_at) (hc_box_at : fd.code = .ref c_box_at) (tm_box_at : (P_box_at, (envOfC "box_at" (defScope s_box_at) 0 0 .none).qual ++ "<lambda>") ∈ Tb.T) (tu_box_at : ∀ p ∈ Tb.T, p.1 = P_box_at → p.2 = (envOfC "box_at" (defScope s_box_at) 0 0 .none).qual ++ "<lambda>") : FnG P w K mg base CX0 20 f fd ["pair", "most", "number"] (liftSp K sp_box_at) := by
  have nd := sc_box_at.nd
  have G_upto := F_upto.mono (show 17 ≤ 17 by decide)
  replace F_state_behind := F_state_behind.mono (show 1 ≤ 19 by decide)
  replace F_sort_of := F_sort_of.mono (show 4 ≤ 19 by decide)
  replace F_upto := F_upto.mono (show 17 ≤ 19 by decide)
  replace F_least_with := F_least_with.mono (show 1 ≤ 19 by decide)
  replace F_is_integer := F_is_integer.mono (show 1 ≤ 19 by decide)
  replace F_count_boxes := F_count_boxes.mono (show 17 ≤ 19 by decide)
  refine okDc (c := c_box_at) (wb := w_box_at) F hc_box_at sc_box_at ln_box_at (fun A outer s H E hr => ?_) rd_box_at
  exact (jss_cons (js_if (jt_not (jt_val (je_call (m := []) F_is_integer hr rfl g_is_integer k_is_integer b_is_integer (ja_cons (jv 2) (ja_cons je_int (ja_cons (je_op d_subB (je_call (m := []) F_count_boxes hr rfl g_count_boxes k_count_boxes b_count_boxes (ja_cons (jv 0) (ja_cons (jv 1) ja_nil))) je_int) ja_nil)))))) (jss_one js_never) jss_nil)
    (jss_cons (js_asgG (je_tup (ja_cons (je_tup ja_nil) (ja_cons (je_glob (v := .int 0) rfl c_FREE ⟨_, rfl⟩ (fun _ _ => .int _)) ja_nil))) (jg_tup rfl (jgs_cons (jgn 3 nd) (jgs_cons (jgn 4 nd) jgs_nil)) (gs_lenN (gs_lenN gs_len0))))
    (jss_cons (js_for PassesOwn.never rfl (ji_enum rfl z_enumerate (ja_cons (jv 1) ja_nil)) (jg_tup rfl (jgs_cons (jgn 5 nd) (jgs_cons (jgn 6 nd) jgs_nil)) (gs_lenN (gs_lenN gs_len0))) (jss_cons (jset 7 nd (jm_e (je_lam (N := ["own", "number", "pair", "most", "axis", "state"]) (lps := ["own"]) (fr := ["number", "pair", "most", "axis", "state"]) (js := [2, 0, 1, 5, 4]) (j := 17) F_least_with hr (by decide) rfl g_least_with k_least_with b_least_with tb_box_at rfl tm_box_at tu_box_at rfl (NdefX.nscope_by (by decide +kernel)) (NdefX.ndef_free (sc := defScope s_box_at) (fr := ["number", "pair", "most", "axis", "state"]) (by decide +kernel)) (NdefX.ndef_fr (sc := defScope s_box_at) (by decide +kernel)) rfl (fun _ _ _ _ _ _ us hl => match us, hl with | [_], _ => rfl) (fun _ _ _ _ _ _ hr => (je_cmp d_gt (je_call (m := []) G_upto hr rfl g_upto k_upto b_upto (ja_cons (jv 2) (ja_cons (jv 3) (ja_cons (jv 4) (ja_cons (jv 5) (ja_cons (jv 0) ja_nil)))))) (jv 1))) (ja_cons (jv 6) ja_nil))))
    (jss_cons (jaug 2 nd (je_call (m := []) F_upto hr rfl g_upto k_upto b_upto (ja_cons (jv 0) (ja_cons (jv 1) (ja_cons (jv 5) (ja_cons (jv 4) (ja_cons (je_op d_subB (jv 7) je_int) ja_nil)))))) d_isub)
    (jss_one (js_asgG (je_tup (ja_cons (je_op d_addB (jv 3) (je_tup (ja_cons (jv 7) ja_nil))) (ja_cons (je_call (m := []) F_state_behind hr rfl g_state_behind k_state_behind b_state_behind (ja_cons (jv 4) (ja_cons (je_call (m := []) F_sort_of hr rfl g_sort_of k_sort_of b_sort_of (ja_cons (jv 0) (ja_cons (jv 5) (ja_cons (jv 7) ja_nil)))) ja_nil))) ja_nil))) (jg_tup rfl (jgs_cons (jgn 3 nd) (jgs_cons (jgn 4 nd) jgs_nil)) (gs_lenN (gs_lenN gs_len0))))))))
    (jss_one (js_ret (jv 3))))))
set_option maxHeartbeats 0 in
theorem ok_box_number {P : Program} {w : World} {K : PySem.W.Frag} {mg : Str → Option Value} {base : Heap} {f : Addr} {fd : FuncData} (F : Fun K "box_number" "box_number" s_box_number f fd) (z_enumerate : mg "enumerate" = none) {t_DEAD : Tok} (c_DEAD : mg "DEAD" = some (.int 4 t_DEAD)) {t_FREE : Tok} (c_FREE : mg "FREE" = some (.int 0 t_FREE)) {f_state_behind : Addr} {fd_state_behind : FuncData} (F_state_behind : FnG P w K mg base CX0 1 f_state_behind fd_state_behind ["state", "sort"] (liftSp K sp_state_behind)) (g_state_behind : mg "state_behind" = some (.ref f_state_behind)) (k_state_behind : PySem.W.keepIn K (.ref f_state_behind) = true) (b_state_behind : Binds K fd_state_behind ["state", "sort"] []) {f_sort_of : Addr} {fd_sort_of : FuncData} (F_sort_of : FnG P w K mg base CX0 4 f_sort_of fd_sort_of ["pair", "axis", "side"] (liftSp K sp_sort_of)) (g_sort_of : mg "sort_of" = some (.ref f_sort_of)) (k_sort_of : PySem.W.keepIn K (.ref f_sort_of) = true) (b_sort_of : Binds K fd_sort_of ["pair", "axis", "side"] []) {f_upto : Addr} {fd_upto : FuncData} (F_upto : FnG P w K mg base CX0 17 f_upto fd_upto ["pair", "most", "axis", "state", "side"] (liftSp K sp_upto)) (g_upto : mg "upto" = some (.ref f_upto)) (k_upto : PySem.W.keepIn K (.ref f_upto) = true) (b_upto : Binds K fd_upto ["pair", "most", "axis", "state", "side"] []) : FnG P w K mg base CX0 18 f fd ["pair", "most", "box"] (liftSp K sp_box_number) := by
  have nd := sc_box_number.nd
  replace F_state_behind := F_state_behind.mono (show 1 ≤ 17 by decide)
  replace F_sort_of := F_sort_of.mono (show 4 ≤ 17 by decide)
  replace F_upto := F_upto.mono (show 17 ≤ 17 by decide)
  refine okD (wb := w_box_number) F sc_box_number ln_box_number (fun cdv A outer s H E hr => ?_) rd_box_number
  exact (jss_cons (jpar (i := 3) (j := 4) rfl nd rfl rfl (by decide) (jms_cons (jm_e je_int) (jms_cons (jm_e (je_glob (v := .int 0) rfl c_FREE ⟨_, rfl⟩ (fun _ _ => .int _))) jms_nil)))
    (jss_cons (js_for PassesOwn.never rfl (ji_enum rfl z_enumerate (ja_cons (jv 2) ja_nil)) (jg_tup rfl (jgs_cons (jgn 5 nd) (jgs_cons (jgn 6 nd) jgs_nil)) (gs_lenN (gs_lenN gs_len0))) (jss_cons (js_if (jt_w (jw_or (jt_cmp d_gt (jv 6) (je_ix d_ix (jv 1) (jv 5) (fun _ _ => rfl))) (jw_or1 (jt_cmp (d_eq hr.u64) (jv 4) (je_glob (v := .int 4) rfl c_DEAD ⟨_, rfl⟩ (fun _ _ => .int _)))))) (jss_one (js_ret je_non)) jss_nil)
    (jss_cons (jaug 3 nd (je_call (m := []) F_upto hr rfl g_upto k_upto b_upto (ja_cons (jv 0) (ja_cons (jv 1) (ja_cons (jv 5) (ja_cons (jv 4) (ja_cons (je_op d_subB (jv 6) je_int) ja_nil)))))) d_iadd)
    (jss_one (jset 4 nd (jm_e (je_call (m := []) F_state_behind hr rfl g_state_behind k_state_behind b_state_behind (ja_cons (jv 4) (ja_cons (je_call (m := []) F_sort_of hr rfl g_sort_of k_sort_of b_sort_of (ja_cons (jv 0) (ja_cons (jv 5) (ja_cons (jv 6) ja_nil)))) ja_nil)))))))))
    (jss_one (js_ret (je_ifE (jt_cmp (d_ne hr.u64) (jv 4) (je_glob (v := .int 4) rfl c_DEAD ⟨_, rfl⟩ (fun _ _ => .int _))) (jv 3) je_non)))))
set_option maxHeartbeats 0 in
theorem ok_Lneighbours_right {P : Program} {w : World} {K : PySem.W.Frag} {mg : Str → Option Value} {base : Heap} {f : Addr} {fd : FuncData} (F : Fun K "_law_neighbours_right" "_law_neighbours_right" s_Lneighbours_right f fd) (z_repr : mg "repr" = none) {f_next_side : Addr} {fd_next_side : FuncData} (F_next_side : FnG P w K mg base CX0 7 f_next_side fd_next_side ["pair", "box", "axis", "least"] (liftSp K sp_next_side)) (g_next_side : mg "next_side" = some (.ref f_next_side)) (k_next_side : PySem.W.keepIn K (.ref f_next_side) = true) (b_next_side : Binds K fd_next_side ["pair", "box", "axis", "least"] []) {f_box_at : Addr} {fd_box_at : FuncData} (F_box_at : FnG P w K mg base CX0 20 f_box_at fd_box_at ["pair", "most", "number"] (liftSp K sp_box_at)) (g_box_at : mg "box_at" = some (.ref f_box_at)) (k_box_at : PySem.W.keepIn K (.ref f_box_at) = true) (b_box_at : Binds K fd_box_at ["pair", "most", "number"] []) {f_box_number : Addr} {fd_box_number : FuncData} (F_box_number : FnG P w K mg base CX0 18 f_box_number fd_box_number ["pair", "most", "box"] (liftSp K sp_box_number)) (g_box_number : mg "box_number" = some (.ref f_box_number)) (k_box_number : PySem.W.keepIn K (.ref f_box_number) = true) (b_box_number : Binds K fd_box_number ["pair", "most", "box"] []) {f_count_boxes : Addr} {fd_count_boxes : FuncData} (F_count_boxes : FnG P w K mg base CX0 17 f_count_boxes fd_count_boxes ["pair", "most"] (liftSp K sp_count_boxes)) (g_count_boxes : mg "count_boxes" = some (.ref f_count_boxes)) (k_count_boxes : PySem.W.keepIn K (.ref f_count_boxes) = true) (b_count_boxes : Binds K fd_count_boxes ["pair", "most"] []) : FnG P w K mg base CX0 21 f fd ["_law_one_here", "_law_rows", "_law_side", "_law_number"] (liftSp K sp_Lneighbours_right) := by
  have nd := sc_Lneighbours_right.nd
  replace F_next_side := F_next_side.mono (show 7 ≤ 20 by decide)
  replace F_box_at := F_box_at.mono (show 20 ≤ 20 by decide)
  replace F_box_number := F_box_number.mono (show 18 ≤ 20 by decide)
  replace F_count_boxes := F_count_boxes.mono (show 17 ≤ 20 by decide)
  refine okD (wb := w_Lneighbours_right) F sc_Lneighbours_right ln_Lneighbours_right (fun cdv A outer s H E hr => ?_) rd_Lneighbours_right
  exact (jss_cons (js_for PassesOwn.never rfl (ji_seq (je_ofL (jl_lst (ja_cons (je_tup ja_nil) (ja_cons (je_tup (ja_cons je_int ja_nil)) ja_nil))))) (jgn 4 nd) (jss_cons (jpar (i := 5) (j := 6) rfl nd rfl rfl (by decide) (jms_cons (jm_e (je_tup (ja_cons (je_op d_addB (je_tup (ja_cons (jv 0) ja_nil)) (jv 4)) (ja_cons (je_op d_addB (je_tup (ja_cons (je_op d_addB (jv 0) je_int) ja_nil)) (jv 4)) ja_nil)))) (jms_cons (jm_e (je_op d_addB (je_tup (ja_cons (jv 2) ja_nil)) (jv 4))) jms_nil)))
    (jss_cons (js_if (jt_cmp (d_ne hr.u64) (je_fn (c_reprN hr.gd hr.u64) rfl z_repr boot_repr (ja_cons (je_ofL (jl_lst (ja_cons (je_call (m := []) F_next_side hr rfl g_next_side k_next_side b_next_side (ja_cons (jv 5) (ja_cons (jv 6) (ja_cons je_int (ja_cons (jv 2) ja_nil))))) (ja_cons (je_call (m := []) F_count_boxes hr rfl g_count_boxes k_count_boxes b_count_boxes (ja_cons (jv 5) (ja_cons (jv 6) ja_nil))) ja_nil)))) ja_nil)) (je_fn (c_reprN hr.gd hr.u64) rfl z_repr boot_repr (ja_cons (je_ofL (jl_lst (ja_cons (jv 2) (ja_cons (je_op d_addB (jv 3) je_int) ja_nil)))) ja_nil))) (jss_one (js_ret je_bl)) jss_nil)
    (jss_cons (js_if (jt_cmp (d_ne hr.u64) (je_fn (c_reprN hr.gd hr.u64) rfl z_repr boot_repr (ja_cons (je_ofL (jl_lst (ja_cons (je_call (m := []) F_box_number hr rfl g_box_number k_box_number b_box_number (ja_cons (jv 5) (ja_cons (jv 6) (ja_cons (jv 6) ja_nil)))) (ja_cons (je_call (m := []) F_box_at hr rfl g_box_at k_box_at b_box_at (ja_cons (jv 5) (ja_cons (jv 6) (ja_cons (jv 3) ja_nil)))) ja_nil)))) ja_nil)) (je_fn (c_reprN hr.gd hr.u64) rfl z_repr boot_repr (ja_cons (je_ofL (jl_lst (ja_cons (jv 3) (ja_cons (jv 6) ja_nil)))) ja_nil))) (jss_one (js_ret je_bl)) jss_nil)
    (jss_one (js_if (jt_w (jw_and (jt_cmp d_lt (jv 1) (je_op d_subB (jv 0) je_int)) (jw_and1 (jt_cmp (d_ne hr.u64) (je_fn (c_reprN hr.gd hr.u64) rfl z_repr boot_repr (ja_cons (je_call (m := []) F_next_side hr rfl g_next_side k_next_side b_next_side (ja_cons (jv 5) (ja_cons (jv 6) (ja_cons je_int (ja_cons (je_op d_addB (je_op d_addB (je_op d_mulT (jv 1) (jv 0)) (jv 1)) je_int) ja_nil))))) ja_nil)) (je_fn (c_reprN hr.gd hr.u64) rfl z_repr boot_repr (ja_cons (je_op d_mulT (je_op d_addB (jv 1) je_int) (jv 0)) ja_nil)))))) (jss_one (js_ret je_bl)) jss_nil))))))
    (jss_one (js_ret je_bl)))
set_option maxHeartbeats 0 in
theorem ok_Lone_and_more {P : Program} {w : World} {K : PySem.W.Frag} {mg : Str → Option Value} {base : Heap} {f : Addr} {fd : FuncData} (F : Fun K "_law_one_and_more" "_law_one_and_more" s_Lone_and_more f fd) (z_repr : mg "repr" = none) {f_Lneighbours_right : Addr} {fd_Lneighbours_right : FuncData} (F_Lneighbours_right : FnG P w K mg base CX0 21 f_Lneighbours_right fd_Lneighbours_right ["_law_one_here", "_law_rows", "_law_side", "_law_number"] (liftSp K sp_Lneighbours_right)) (g_Lneighbours_right : mg "_law_neighbours_right" = some (.ref f_Lneighbours_right)) (k_Lneighbours_right : PySem.W.keepIn K (.ref f_Lneighbours_right) = true) (b_Lneighbours_right : Binds K fd_Lneighbours_right ["_law_one_here", "_law_rows", "_law_side", "_law_number"] []) {f_side_number : Addr} {fd_side_number : FuncData} (F_side_number : FnG P w K mg base CX0 5 f_side_number fd_side_number ["pair", "box", "axis", "side"] (liftSp K sp_side_number)) (g_side_number : mg "side_number" = some (.ref f_side_number)) (k_side_number : PySem.W.keepIn K (.ref f_side_number) = true) (b_side_number : Binds K fd_side_number ["pair", "box", "axis", "side"] []) {f_side_at : Addr} {fd_side_at : FuncData} (F_side_at : FnG P w K mg base CX0 7 f_side_at fd_side_at ["pair", "box", "axis", "number"] (liftSp K sp_side_at)) (g_side_at : mg "side_at" = some (.ref f_side_at)) (k_side_at : PySem.W.keepIn K (.ref f_side_at) = true) (b_side_at : Binds K fd_side_at ["pair", "box", "axis", "number"] []) {f_Ldraw : Addr} {fd_Ldraw : FuncData} (F_Ldraw : FnG P w K mg base CX0 1 f_Ldraw fd_Ldraw ["_law_deck_here", "_law_many"] (liftSp K sp_Ldraw)) (g_Ldraw : mg "_law_draw" = some (.ref f_Ldraw)) (k_Ldraw : PySem.W.keepIn K (.ref f_Ldraw) = true) (b_Ldraw : Binds K fd_Ldraw ["_law_deck_here", "_law_many"] []) : FnG P w K mg base CX0 22 f fd ["_law_deck_here"] (liftSp K sp_Lone_and_more) := by
  have nd := sc_Lone_and_more.nd
  replace F_Lneighbours_right := F_Lneighbours_right.mono (show 21 ≤ 21 by decide)
  replace F_side_number := F_side_number.mono (show 5 ≤ 21 by decide)
  replace F_side_at := F_side_at.mono (show 7 ≤ 21 by decide)
  replace F_Ldraw := F_Ldraw.mono (show 1 ≤ 21 by decide)
  refine okD (wb := w_Lone_and_more) F sc_Lone_and_more ln_Lone_and_more (fun cdv A outer s H E hr => ?_) rd_Lone_and_more
  exact (jss_cons (jset 1 nd (jm_e (je_op d_addB je_int (je_call (m := [true, false]) F_Ldraw hr rfl g_Ldraw k_Ldraw b_Ldraw (ja_cons (jv 0) (ja_cons (je_op d_mulT je_int (je_op d_pow je_int je_int)) ja_nil))))))
    (jss_cons (jset 2 nd (jm_e (je_op d_addB je_int (je_call (m := [true, false]) F_Ldraw hr rfl g_Ldraw k_Ldraw b_Ldraw (ja_cons (jv 0) (ja_cons (je_op d_subB (jv 1) je_int) ja_nil))))))
    (jss_cons (jset 3 nd (jm_e (je_call (m := [true, false]) F_Ldraw hr rfl g_Ldraw k_Ldraw b_Ldraw (ja_cons (jv 0) (ja_cons (je_op d_addB (jv 2) je_int) ja_nil)))))
    (jss_cons (jset 4 nd (jm_e (je_op d_subB (je_op d_addB (je_op d_div (je_op d_mulT (jv 2) (je_op d_addB (jv 2) je_int)) je_int) (jv 3)) je_int)))
    (jss_cons (js_if (jt_cmp (d_ne hr.u64) (je_fn (c_reprN hr.gd hr.u64) rfl z_repr boot_repr (ja_cons (je_call (m := []) F_side_at hr rfl g_side_at k_side_at b_side_at (ja_cons (je_tup (ja_cons (je_tup (ja_cons (jv 1) ja_nil)) (ja_cons (je_tup (ja_cons (je_op d_addB (jv 1) je_int) ja_nil)) ja_nil))) (ja_cons (je_tup (ja_cons je_int ja_nil)) (ja_cons je_int (ja_cons (jv 4) ja_nil))))) ja_nil)) (je_fn (c_reprN hr.gd hr.u64) rfl z_repr boot_repr (ja_cons (je_op d_addB (je_op d_mulT (jv 2) (jv 1)) (jv 3)) ja_nil))) (jss_one (js_ret je_bl)) jss_nil)
    (jss_cons (js_if (jt_cmp (d_ne hr.u64) (je_fn (c_reprN hr.gd hr.u64) rfl z_repr boot_repr (ja_cons (je_call (m := []) F_side_number hr rfl g_side_number k_side_number b_side_number (ja_cons (je_tup (ja_cons (je_tup (ja_cons (je_op d_addB (jv 1) je_int) ja_nil)) (ja_cons (je_tup (ja_cons (jv 1) ja_nil)) ja_nil))) (ja_cons (je_tup (ja_cons je_int ja_nil)) (ja_cons je_int (ja_cons (je_op d_addB (je_op d_mulT (jv 2) (jv 1)) (jv 3)) ja_nil))))) ja_nil)) (je_fn (c_reprN hr.gd hr.u64) rfl z_repr boot_repr (ja_cons (jv 4) ja_nil))) (jss_one (js_ret je_bl)) jss_nil)
    (jss_one (js_ret (je_call (m := []) F_Lneighbours_right hr rfl g_Lneighbours_right k_Lneighbours_right b_Lneighbours_right (ja_cons (jv 1) (ja_cons (jv 2) (ja_cons (je_op d_addB (je_op d_mulT (jv 2) (jv 1)) (jv 3)) (ja_cons (jv 4) ja_nil)))))))))))))
set_option maxHeartbeats 0 in
theorem ok_law {P : Program} {w : World} {K : PySem.W.Frag} {mg : Str → Option Value} {base : Heap} {f : Addr} {fd : FuncData} (F : Fun K "law" "law" s_law f fd) (z_range : mg "range" = none) (z_repr : mg "repr" = none) (z_tuple : mg "tuple" = none) (z_len : mg "len" = none) {f_Lone_and_more : Addr} {fd_Lone_and_more : FuncData} (F_Lone_and_more : FnG P w K mg base CX0 22 f_Lone_and_more fd_Lone_and_more ["_law_deck_here"] (liftSp K sp_Lone_and_more)) (g_Lone_and_more : mg "_law_one_and_more" = some (.ref f_Lone_and_more)) (k_Lone_and_more : PySem.W.keepIn K (.ref f_Lone_and_more) = true) (b_Lone_and_more : Binds K fd_Lone_and_more ["_law_deck_here"] []) {f_side_at : Addr} {fd_side_at : FuncData} (F_side_at : FnG P w K mg base CX0 7 f_side_at fd_side_at ["pair", "box", "axis", "number"] (liftSp K sp_side_at)) (g_side_at : mg "side_at" = some (.ref f_side_at)) (k_side_at : PySem.W.keepIn K (.ref f_side_at) = true) (b_side_at : Binds K fd_side_at ["pair", "box", "axis", "number"] []) {f_Lfar_filled : Addr} {fd_Lfar_filled : FuncData} (F_Lfar_filled : FnG P w K mg base CX0 2 f_Lfar_filled fd_Lfar_filled ["_law_pair_here", "_law_box_here"] (liftSp K sp_Lfar_filled)) (g_Lfar_filled : mg "_law_far_filled" = some (.ref f_Lfar_filled)) (k_Lfar_filled : PySem.W.keepIn K (.ref f_Lfar_filled) = true) (b_Lfar_filled : Binds K fd_Lfar_filled ["_law_pair_here", "_law_box_here"] []) {f_Lwith : Addr} {fd_Lwith : FuncData} (F_Lwith : FnG P w K mg base CX0 1 f_Lwith fd_Lwith ["_law_box_here", "_law_axis", "_law_side"] (liftSp K sp_Lwith)) (g_Lwith : mg "_law_with" = some (.ref f_Lwith)) (k_Lwith : PySem.W.keepIn K (.ref f_Lwith) = true) (b_Lwith : Binds K fd_Lwith ["_law_box_here", "_law_axis", "_law_side"] []) {f_side_number : Addr} {fd_side_number : FuncData} (F_side_number : FnG P w K mg base CX0 5 f_side_number fd_side_number ["pair", "box", "axis", "side"] (liftSp K sp_side_number)) (g_side_number : mg "side_number" = some (.ref f_side_number)) (k_side_number : PySem.W.keepIn K (.ref f_side_number) = true) (b_side_number : Binds K fd_side_number ["pair", "box", "axis", "side"] []) {f_Ldraw : Addr} {fd_Ldraw : FuncData} (F_Ldraw : FnG P w K mg base CX0 1 f_Ldraw fd_Ldraw ["_law_deck_here", "_law_many"] (liftSp K sp_Ldraw)) (g_Ldraw : mg "_law_draw" = some (.ref f_Ldraw)) (k_Ldraw : PySem.W.keepIn K (.ref f_Ldraw) = true) (b_Ldraw : Binds K fd_Ldraw ["_law_deck_here", "_law_many"] []) {f_Lone : Addr} {fd_Lone : FuncData} (F_Lone : FnG P w K mg base CX0 2 f_Lone fd_Lone ["_law_deck_here", "_law_items"] (liftSp K sp_Lone)) (g_Lone : mg "_law_one" = some (.ref f_Lone)) (k_Lone : PySem.W.keepIn K (.ref f_Lone) = true) (b_Lone : Binds K fd_Lone ["_law_deck_here", "_law_items"] []) {f_count_along : Addr} {fd_count_along : FuncData} (F_count_along : FnG P w K mg base CX0 5 f_count_along fd_count_along ["pair", "box", "axis", "most"] (liftSp K sp_count_along)) (g_count_along : mg "count_along" = some (.ref f_count_along)) (k_count_along : PySem.W.keepIn K (.ref f_count_along) = true) (b_count_along : Binds K fd_count_along ["pair", "box", "axis", "most"] []) {f_Lfitting : Addr} {fd_Lfitting : FuncData} (F_Lfitting : FnG P w K mg base CX0 3 f_Lfitting fd_Lfitting ["_law_pair_here", "_law_box_here", "_law_axis", "_law_most"] (liftSp K sp_Lfitting)) (g_Lfitting : mg "_law_fitting" = some (.ref f_Lfitting)) (k_Lfitting : PySem.W.keepIn K (.ref f_Lfitting) = true) (b_Lfitting : Binds K fd_Lfitting ["_law_pair_here", "_law_box_here", "_law_axis", "_law_most"] []) {f_Ltask : Addr} {fd_Ltask : FuncData} (F_Ltask : FnG P w K mg base CX0 5 f_Ltask fd_Ltask ["_law_deck_here"] (liftSp K sp_Ltask)) (g_Ltask : mg "_law_task" = some (.ref f_Ltask)) (k_Ltask : PySem.W.keepIn K (.ref f_Ltask) = true) (b_Ltask : Binds K fd_Ltask ["_law_deck_here"] []) {f_Ldeck : Addr} {fd_Ldeck : FuncData} (F_Ldeck : FnG P w K mg base CX0 1 f_Ldeck fd_Ldeck ["_law_script"] (liftM K sp_Ldeck)) (g_Ldeck : mg "_law_deck" = some (.ref f_Ldeck)) (k_Ldeck : PySem.W.keepIn K (.ref f_Ldeck) = true) (b_Ldeck : Binds K fd_Ldeck ["_law_script"] []) : FnG P w K mg base CX0 23 f fd ["_law_script"] (liftSp K sp_law) := by
  have nd := sc_law.nd
  replace F_Lone_and_more := F_Lone_and_more.mono (show 22 ≤ 22 by decide)
  replace F_side_at := F_side_at.mono (show 7 ≤ 22 by decide)
  replace F_Lfar_filled := F_Lfar_filled.mono (show 2 ≤ 22 by decide)
  replace F_Lwith := F_Lwith.mono (show 1 ≤ 22 by decide)
  replace F_side_number := F_side_number.mono (show 5 ≤ 22 by decide)
  replace F_Ldraw := F_Ldraw.mono (show 1 ≤ 22 by decide)
  replace F_Lone := F_Lone.mono (show 2 ≤ 22 by decide)
  replace F_count_along := F_count_along.mono (show 5 ≤ 22 by decide)
  replace F_Lfitting := F_Lfitting.mono (show 3 ≤ 22 by decide)
  replace F_Ltask := F_Ltask.mono (show 5 ≤ 22 by decide)
  replace F_Ldeck := F_Ldeck.mono (show 1 ≤ 22 by decide)
  refine okD (wb := w_law) F sc_law ln_law (fun cdv A outer s H E hr => ?_) rd_law
  exact (jss_cons (jset 1 nd (jm_call (m := [true]) F_Ldeck hr rfl g_Ldeck k_Ldeck b_Ldeck (ja_cons (jv 0) ja_nil)))
    (jss_cons (js_for PassesOwn.never rfl (ji_range1 rfl z_range (ja_cons je_int ja_nil)) (jgn 2 nd) (jss_cons (js_asgG (je_call (m := [true]) F_Ltask hr rfl g_Ltask k_Ltask b_Ltask (ja_cons (jv 1) ja_nil)) (jg_tup rfl (jgs_cons (jgn 3 nd) (jgs_cons (jgn 4 nd) (jgs_cons (jgn 5 nd) jgs_nil))) (gs_lenN (gs_lenN (gs_lenN gs_len0)))))
    (jss_cons (jset 6 nd (jm_e (je_call (m := []) F_Lfitting hr rfl g_Lfitting k_Lfitting b_Lfitting (ja_cons (jv 3) (ja_cons (jv 4) (ja_cons (jv 5) (ja_cons je_int ja_nil)))))))
    (jss_cons (js_for PassesOwn.never rfl (ji_seq (je_ofL (jl_lst (ja_cons je_int (ja_cons je_int (ja_cons (je_call (m := [true, false]) F_Ldraw hr rfl g_Ldraw k_Ldraw b_Ldraw (ja_cons (jv 1) (ja_cons je_int ja_nil))) ja_nil)))))) (jgn 7 nd) (jss_cons (jset 8 nd (jm_e (je_call (m := []) F_side_at hr rfl g_side_at k_side_at b_side_at (ja_cons (jv 3) (ja_cons (jv 4) (ja_cons (jv 5) (ja_cons (jv 7) ja_nil)))))))
    (jss_one (js_if (jt_w (jw_or (jt_w (jw_and (jt_cmp (d_eq hr.u64) (jv 6) (je_ofL (jl_lst ja_nil))) (jw_and1 (jt_cmp d_isnot (jv 8) je_non)))) (jw_or1 (jt_w (jw_and (jt_cmp d_lt (jv 7) (je_fn c_len rfl z_len boot_len (ja_cons (jv 6) ja_nil))) (jw_and1 (jt_cmp (d_ne hr.u64) (je_fn (c_reprN hr.gd hr.u64) rfl z_repr boot_repr (ja_cons (jv 8) ja_nil)) (je_fn (c_reprN hr.gd hr.u64) rfl z_repr boot_repr (ja_cons (je_ix d_ix (jv 6) (jv 7) (fun _ _ => rfl)) ja_nil))))))))) (jss_one (js_ret je_bl)) jss_nil))))
    (jss_cons (js_for PassesOwn.never rfl (ji_seq (je_ofL (jl_lst (ja_cons je_int (ja_cons je_int (ja_cons (je_op d_addB je_int (je_call (m := [true, false]) F_Ldraw hr rfl g_Ldraw k_Ldraw b_Ldraw (ja_cons (jv 1) (ja_cons je_int ja_nil)))) (ja_cons (je_op d_addB je_int (je_call (m := [true, false]) F_Ldraw hr rfl g_Ldraw k_Ldraw b_Ldraw (ja_cons (jv 1) (ja_cons je_int ja_nil)))) ja_nil))))))) (jgn 9 nd) (jss_cons (jset 10 nd (jm_e (je_ifE (jt_cmp (d_in hr.u65) (jv 9) (jv 6)) (je_index (pe_bm PySem.F.plainAttrs_list PySem.F.slot_list_index PySem.F.type_list_index (mt_indexD hr.u65) (jv 6) (pa_cons (jv 9) pa_nil))) je_non)))
    (jss_one (js_if (jt_cmp (d_ne hr.u64) (je_fn (c_reprN hr.gd hr.u64) rfl z_repr boot_repr (ja_cons (je_call (m := []) F_side_number hr rfl g_side_number k_side_number b_side_number (ja_cons (jv 3) (ja_cons (jv 4) (ja_cons (jv 5) (ja_cons (jv 9) ja_nil))))) ja_nil)) (je_fn (c_reprN hr.gd hr.u64) rfl z_repr boot_repr (ja_cons (jv 10) ja_nil))) (jss_one (js_ret je_bl)) jss_nil))))
    (jss_cons (js_for PassesOwn.never rfl (ji_seq (je_ofL (jl_lst (ja_cons (je_op d_mulT (je_call (m := [true, false]) F_Ldraw hr rfl g_Ldraw k_Ldraw b_Ldraw (ja_cons (jv 1) (ja_cons (je_op d_pow je_int je_int) ja_nil))) (je_op d_pow je_int je_int)) (ja_cons (je_op d_pow je_int je_int) (ja_cons (je_op d_subB (je_op d_pow je_int je_int) (je_call (m := [true, false]) F_Ldraw hr rfl g_Ldraw k_Ldraw b_Ldraw (ja_cons (jv 1) (ja_cons je_int ja_nil)))) ja_nil)))))) (jgn 7 nd) (jss_cons (jset 8 nd (jm_e (je_call (m := []) F_side_at hr rfl g_side_at k_side_at b_side_at (ja_cons (jv 3) (ja_cons (jv 4) (ja_cons (jv 5) (ja_cons (jv 7) ja_nil)))))))
    (jss_cons (js_if (jt_w (jw_and (jt_cmp (d_eq hr.u64) (jv 6) (je_ofL (jl_lst ja_nil))) (jw_and1 (jt_cmp d_isnot (jv 8) je_non)))) (jss_one (js_ret je_bl)) jss_nil)
    (jss_cons (js_if (jt_w (jw_and (jt_cmp (d_ne hr.u64) (jv 6) (je_ofL (jl_lst ja_nil))) (jw_and1 (jt_not (jt_val (je_call (m := []) F_Lfar_filled hr rfl g_Lfar_filled k_Lfar_filled b_Lfar_filled (ja_cons (jv 3) (ja_cons (je_call (m := []) F_Lwith hr rfl g_Lwith k_Lwith b_Lwith (ja_cons (jv 4) (ja_cons (jv 5) (ja_cons (jv 8) ja_nil)))) ja_nil)))))))) (jss_one (js_ret je_bl)) jss_nil)
    (jss_one (js_if (jt_w (jw_and (jt_cmp (d_ne hr.u64) (jv 6) (je_ofL (jl_lst ja_nil))) (jw_and1 (jt_cmp d_le (jv 8) (je_op d_pow je_int je_int))))) (jss_cons (jset 11 nd (jm_e (je_ofL (jl_lst (ja_cons (je_call (m := []) F_side_number hr rfl g_side_number k_side_number b_side_number (ja_cons (jv 3) (ja_cons (jv 4) (ja_cons (jv 5) (ja_cons (jv 8) ja_nil))))) (ja_cons (je_call (m := []) F_count_along hr rfl g_count_along k_count_along b_count_along (ja_cons (jv 3) (ja_cons (jv 4) (ja_cons (jv 5) (ja_cons (jv 8) ja_nil))))) ja_nil))))))
    (jss_one (js_if (jt_cmp (d_ne hr.u64) (je_fn (c_reprN hr.gd hr.u64) rfl z_repr boot_repr (ja_cons (jv 11) ja_nil)) (je_fn (c_reprN hr.gd hr.u64) rfl z_repr boot_repr (ja_cons (je_ofL (jl_lst (ja_cons (jv 7) (ja_cons (je_op d_addB (jv 7) je_int) ja_nil)))) ja_nil))) (jss_one (js_ret je_bl)) jss_nil))) jss_nil))))))
    (jss_cons (jset 12 nd (jm_e (je_op d_addB je_int (je_call (m := [true, false]) F_Ldraw hr rfl g_Ldraw k_Ldraw b_Ldraw (ja_cons (jv 1) (ja_cons (je_call (m := [true, false]) F_Lone hr rfl g_Lone k_Lone b_Lone (ja_cons (jv 1) (ja_cons (je_ofL (jl_lst (ja_cons je_int (ja_cons (je_op d_pow je_int je_int) (ja_cons (je_op d_pow je_int je_int) ja_nil))))) ja_nil))) ja_nil))))))
    (jss_cons (jset 13 nd (jm_e (je_ty c_tup rfl z_tuple boot_tuple (ja_cons (je_ofL (jl_comp (own := [("_law_brick", 14)]) rfl nd (ji_seq (jv 3)) (blkOk_by (by kernel_rfl)) (by decide) (fun _ _ _ _ _ => (jgn 14 nd)) (fun _ _ _ _ _ => jts_nil) (fun _ _ _ _ _ => (je_call (m := []) F_Lwith hr rfl g_Lwith k_Lwith b_Lwith (ja_cons (jv 14) (ja_cons (jv 5) (ja_cons (je_op d_mulT (je_ix d_ix (jv 14) (jv 5) (fun _ _ => rfl)) (jv 12)) ja_nil))))))) ja_nil))))
    (jss_cons (js_for PassesOwn.never rfl (ji_seq (je_ofL (jl_lst (ja_cons je_int (ja_cons je_int (ja_cons (je_op d_mulT (je_call (m := [true, false]) F_Ldraw hr rfl g_Ldraw k_Ldraw b_Ldraw (ja_cons (jv 1) (ja_cons (je_op d_pow je_int je_int) ja_nil))) (je_op d_pow je_int je_int)) (ja_cons (je_op d_pow je_int je_int) ja_nil))))))) (jgn 7 nd) (jss_cons (jpar (i := 8) (j := 10) rfl nd rfl rfl (by decide) (jms_cons (jm_e (je_call (m := []) F_side_at hr rfl g_side_at k_side_at b_side_at (ja_cons (jv 13) (ja_cons (jv 4) (ja_cons (jv 5) (ja_cons (jv 7) ja_nil)))))) (jms_cons (jm_e (je_call (m := []) F_side_at hr rfl g_side_at k_side_at b_side_at (ja_cons (jv 3) (ja_cons (jv 4) (ja_cons (jv 5) (ja_cons (jv 7) ja_nil)))))) jms_nil)))
    (jss_one (js_if (jt_cmp (d_ne hr.u64) (je_fn (c_reprN hr.gd hr.u64) rfl z_repr boot_repr (ja_cons (jv 8) ja_nil)) (je_fn (c_reprN hr.gd hr.u64) rfl z_repr boot_repr (ja_cons (je_ifE (jt_cmp d_is (jv 10) je_non) je_non (je_op d_mulT (jv 10) (jv 12))) ja_nil))) (jss_one (js_ret je_bl)) jss_nil))))
    (jss_cons (jset 9 nd (jm_e (je_op d_subB (je_op d_pow je_int je_int) (je_call (m := [true, false]) F_Ldraw hr rfl g_Ldraw k_Ldraw b_Ldraw (ja_cons (jv 1) (ja_cons je_int ja_nil))))))
    (jss_cons (jset 7 nd (jm_e (je_call (m := []) F_side_number hr rfl g_side_number k_side_number b_side_number (ja_cons (jv 3) (ja_cons (jv 4) (ja_cons (jv 5) (ja_cons (jv 9) ja_nil)))))))
    (jss_cons (js_if (jt_cmp (d_ne hr.u64) (je_cmp d_isnot (jv 7) je_non) (je_call (m := []) F_Lfar_filled hr rfl g_Lfar_filled k_Lfar_filled b_Lfar_filled (ja_cons (jv 3) (ja_cons (je_call (m := []) F_Lwith hr rfl g_Lwith k_Lwith b_Lwith (ja_cons (jv 4) (ja_cons (jv 5) (ja_cons (jv 9) ja_nil)))) ja_nil)))) (jss_one (js_ret je_bl)) jss_nil)
    (jss_one (js_if (jt_w (jw_and (jt_cmp d_isnot (jv 7) je_non) (jw_and1 (jt_cmp (d_ne hr.u64) (je_fn (c_reprN hr.gd hr.u64) rfl z_repr boot_repr (ja_cons (je_call (m := []) F_side_at hr rfl g_side_at k_side_at b_side_at (ja_cons (jv 3) (ja_cons (jv 4) (ja_cons (jv 5) (ja_cons (jv 7) ja_nil))))) ja_nil)) (je_fn (c_reprN hr.gd hr.u64) rfl z_repr boot_repr (ja_cons (jv 9) ja_nil)))))) (jss_one (js_ret je_bl)) jss_nil))))))))))))))
    (jss_one (js_ret (je_cmp (d_eq hr.u64) (je_ofL (jl_comp (own := [("_law_turn", 2)]) rfl nd (ji_range1 rfl z_range (ja_cons je_int ja_nil)) (blkOk_by (by kernel_rfl)) (by decide) (fun _ _ _ _ _ => (jgn 2 nd)) (fun _ _ _ _ _ => (jts_one (jt_not (jt_val (je_call (m := [true]) F_Lone_and_more hr rfl g_Lone_and_more k_Lone_and_more b_Lone_and_more (ja_cons (jv 1) ja_nil)))))) (fun _ _ _ _ _ => je_int))) (je_ofL (jl_lst ja_nil)))))))
end K54
set_option Elab.async false
set_option linter.all false
set_option maxRecDepth 100000
set_option maxHeartbeats 4000000
namespace K54
open PySem PySem.Spec PyProof.Rows L2 DL TW
variable [DL.Tb]
theorem all_mk {l : PySem.W.OpenLaw} {w : World} {K : PySem.W.Frag} {h : Heap} {mg : Str → Option Value} {fa : Addr} (X : K.In h) (G : h.Ns mainGlobals mg) (hfa : mg "law" = some (.ref fa))
    {od_common an_common : Option Addr} {sl_common : Array (Option Value)} {oc_common kV_common dc_common pm_common cd_common ct_common : Value} {f_common : Addr}
    (a_common : PySem.W.nsIn K mainGlobals "common" = some (some (.ref f_common))) (l_common : K.lookup f_common = some ⟨oc_common, od_common, .func (PySem.W.fnOf "common" "common" (defArgs s_common) (defBody s_common) (defScope s_common) .none kV_common dc_common pm_common an_common cd_common ct_common), sl_common⟩) (c_common : PySem.W.codeIn K cd_common "common" = true) (k_common : PySem.W.keepIn K (.ref f_common) = true)
    {od_joint an_joint : Option Addr} {sl_joint : Array (Option Value)} {oc_joint kV_joint dc_joint pm_joint cd_joint ct_joint : Value} {f_joint : Addr}
    (a_joint : PySem.W.nsIn K mainGlobals "joint" = some (some (.ref f_joint))) (l_joint : K.lookup f_joint = some ⟨oc_joint, od_joint, .func (PySem.W.fnOf "joint" "joint" (defArgs s_joint) (defBody s_joint) (defScope s_joint) .none kV_joint dc_joint pm_joint an_joint cd_joint ct_joint), sl_joint⟩) (c_joint : PySem.W.codeIn K cd_joint "joint" = true) (k_joint : PySem.W.keepIn K (.ref f_joint) = true)
    {od_inverse an_inverse : Option Addr} {sl_inverse : Array (Option Value)} {oc_inverse kV_inverse dc_inverse pm_inverse cd_inverse ct_inverse : Value} {f_inverse : Addr}
    (a_inverse : PySem.W.nsIn K mainGlobals "inverse" = some (some (.ref f_inverse))) (l_inverse : K.lookup f_inverse = some ⟨oc_inverse, od_inverse, .func (PySem.W.fnOf "inverse" "inverse" (defArgs s_inverse) (defBody s_inverse) (defScope s_inverse) .none kV_inverse dc_inverse pm_inverse an_inverse cd_inverse ct_inverse), sl_inverse⟩) (c_inverse : PySem.W.codeIn K cd_inverse "inverse" = true) (k_inverse : PySem.W.keepIn K (.ref f_inverse) = true)
    {od_least_times an_least_times : Option Addr} {sl_least_times : Array (Option Value)} {oc_least_times kV_least_times dc_least_times pm_least_times cd_least_times ct_least_times : Value} {f_least_times : Addr}
    (a_least_times : PySem.W.nsIn K mainGlobals "least_times" = some (some (.ref f_least_times))) (l_least_times : K.lookup f_least_times = some ⟨oc_least_times, od_least_times, .func (PySem.W.fnOf "least_times" "least_times" (defArgs s_least_times) (defBody s_least_times) (defScope s_least_times) .none kV_least_times dc_least_times pm_least_times an_least_times cd_least_times ct_least_times), sl_least_times⟩) (c_least_times : PySem.W.codeIn K cd_least_times "least_times" = true) (k_least_times : PySem.W.keepIn K (.ref f_least_times) = true)
    {od_is_sum an_is_sum : Option Addr} {sl_is_sum : Array (Option Value)} {oc_is_sum kV_is_sum dc_is_sum pm_is_sum cd_is_sum ct_is_sum : Value} {f_is_sum : Addr}
    (a_is_sum : PySem.W.nsIn K mainGlobals "is_sum" = some (some (.ref f_is_sum))) (l_is_sum : K.lookup f_is_sum = some ⟨oc_is_sum, od_is_sum, .func (PySem.W.fnOf "is_sum" "is_sum" (defArgs s_is_sum) (defBody s_is_sum) (defScope s_is_sum) .none kV_is_sum dc_is_sum pm_is_sum an_is_sum cd_is_sum ct_is_sum), sl_is_sum⟩) (c_is_sum : PySem.W.codeIn K cd_is_sum "is_sum" = true) (k_is_sum : PySem.W.keepIn K (.ref f_is_sum) = true)
    {od_sums_of an_sums_of : Option Addr} {sl_sums_of : Array (Option Value)} {oc_sums_of kV_sums_of dc_sums_of pm_sums_of cd_sums_of ct_sums_of : Value} {f_sums_of : Addr}
    (a_sums_of : PySem.W.nsIn K mainGlobals "sums_of" = some (some (.ref f_sums_of))) (l_sums_of : K.lookup f_sums_of = some ⟨oc_sums_of, od_sums_of, .func (PySem.W.fnOf "sums_of" "sums_of" (defArgs s_sums_of) (defBody s_sums_of) (defScope s_sums_of) .none kV_sums_of dc_sums_of pm_sums_of an_sums_of cd_sums_of ct_sums_of), sl_sums_of⟩) (c_sums_of : PySem.W.codeIn K cd_sums_of "sums_of" = true) (k_sums_of : PySem.W.keepIn K (.ref f_sums_of) = true)
    {od_rests an_rests : Option Addr} {sl_rests : Array (Option Value)} {oc_rests kV_rests dc_rests pm_rests cd_rests ct_rests : Value} {f_rests : Addr}
    (a_rests : PySem.W.nsIn K mainGlobals "rests" = some (some (.ref f_rests))) (l_rests : K.lookup f_rests = some ⟨oc_rests, od_rests, .func (PySem.W.fnOf "rests" "rests" (defArgs s_rests) (defBody s_rests) (defScope s_rests) .none kV_rests dc_rests pm_rests an_rests cd_rests ct_rests), sl_rests⟩) (c_rests : PySem.W.codeIn K cd_rests "rests" = true) (k_rests : PySem.W.keepIn K (.ref f_rests) = true)
    {od_along an_along : Option Addr} {sl_along : Array (Option Value)} {oc_along kV_along dc_along pm_along cd_along ct_along : Value} {f_along : Addr}
    (a_along : PySem.W.nsIn K mainGlobals "along" = some (some (.ref f_along))) (l_along : K.lookup f_along = some ⟨oc_along, od_along, .func (PySem.W.fnOf "along" "along" (defArgs s_along) (defBody s_along) (defScope s_along) .none kV_along dc_along pm_along an_along cd_along ct_along), sl_along⟩) (c_along : PySem.W.codeIn K cd_along "along" = true) (k_along : PySem.W.keepIn K (.ref f_along) = true)
    {od_floors an_floors : Option Addr} {sl_floors : Array (Option Value)} {oc_floors kV_floors dc_floors pm_floors cd_floors ct_floors : Value} {f_floors : Addr}
    (a_floors : PySem.W.nsIn K mainGlobals "floors" = some (some (.ref f_floors))) (l_floors : K.lookup f_floors = some ⟨oc_floors, od_floors, .func (PySem.W.fnOf "floors" "floors" (defArgs s_floors) (defBody s_floors) (defScope s_floors) .none kV_floors dc_floors pm_floors an_floors cd_floors ct_floors), sl_floors⟩) (c_floors : PySem.W.codeIn K cd_floors "floors" = true) (k_floors : PySem.W.keepIn K (.ref f_floors) = true)
    {od_count_sums an_count_sums : Option Addr} {sl_count_sums : Array (Option Value)} {oc_count_sums kV_count_sums dc_count_sums pm_count_sums cd_count_sums ct_count_sums : Value} {f_count_sums : Addr}
    (a_count_sums : PySem.W.nsIn K mainGlobals "count_sums" = some (some (.ref f_count_sums))) (l_count_sums : K.lookup f_count_sums = some ⟨oc_count_sums, od_count_sums, .func (PySem.W.fnOf "count_sums" "count_sums" (defArgs s_count_sums) (defBody s_count_sums) (defScope s_count_sums) .none kV_count_sums dc_count_sums pm_count_sums an_count_sums cd_count_sums ct_count_sums), sl_count_sums⟩) (c_count_sums : PySem.W.codeIn K cd_count_sums "count_sums" = true) (k_count_sums : PySem.W.keepIn K (.ref f_count_sums) = true)
    {od_count_by an_count_by : Option Addr} {sl_count_by : Array (Option Value)} {oc_count_by kV_count_by dc_count_by pm_count_by cd_count_by ct_count_by : Value} {f_count_by : Addr}
    (a_count_by : PySem.W.nsIn K mainGlobals "count_by" = some (some (.ref f_count_by))) (l_count_by : K.lookup f_count_by = some ⟨oc_count_by, od_count_by, .func (PySem.W.fnOf "count_by" "count_by" (defArgs s_count_by) (defBody s_count_by) (defScope s_count_by) .none kV_count_by dc_count_by pm_count_by an_count_by cd_count_by ct_count_by), sl_count_by⟩) (c_count_by : PySem.W.codeIn K cd_count_by "count_by" = true) (k_count_by : PySem.W.keepIn K (.ref f_count_by) = true)
    {od_count_along an_count_along : Option Addr} {sl_count_along : Array (Option Value)} {oc_count_along kV_count_along dc_count_along pm_count_along cd_count_along ct_count_along : Value} {f_count_along : Addr}
    (a_count_along : PySem.W.nsIn K mainGlobals "count_along" = some (some (.ref f_count_along))) (l_count_along : K.lookup f_count_along = some ⟨oc_count_along, od_count_along, .func (PySem.W.fnOf "count_along" "count_along" (defArgs s_count_along) (defBody s_count_along) (defScope s_count_along) .none kV_count_along dc_count_along pm_count_along an_count_along cd_count_along ct_count_along), sl_count_along⟩) (c_count_along : PySem.W.codeIn K cd_count_along "count_along" = true) (k_count_along : PySem.W.keepIn K (.ref f_count_along) = true)
    {od_least_with an_least_with : Option Addr} {sl_least_with : Array (Option Value)} {oc_least_with kV_least_with dc_least_with pm_least_with cd_least_with ct_least_with : Value} {f_least_with : Addr}
    (a_least_with : PySem.W.nsIn K mainGlobals "least_with" = some (some (.ref f_least_with))) (l_least_with : K.lookup f_least_with = some ⟨oc_least_with, od_least_with, .func (PySem.W.fnOf "least_with" "least_with" (defArgs s_least_with) (defBody s_least_with) (defScope s_least_with) .none kV_least_with dc_least_with pm_least_with an_least_with cd_least_with ct_least_with), sl_least_with⟩) (c_least_with : PySem.W.codeIn K cd_least_with "least_with" = true) (k_least_with : PySem.W.keepIn K (.ref f_least_with) = true)
    {od_sum_at an_sum_at : Option Addr} {sl_sum_at : Array (Option Value)} {oc_sum_at kV_sum_at dc_sum_at pm_sum_at cd_sum_at ct_sum_at : Value} {f_sum_at : Addr}
    (a_sum_at : PySem.W.nsIn K mainGlobals "sum_at" = some (some (.ref f_sum_at))) (l_sum_at : K.lookup f_sum_at = some ⟨oc_sum_at, od_sum_at, .func (PySem.W.fnOf "sum_at" "sum_at" (defArgs s_sum_at) (defBody s_sum_at) (defScope s_sum_at) .none kV_sum_at dc_sum_at pm_sum_at an_sum_at cd_sum_at ct_sum_at), sl_sum_at⟩) (c_sum_at : PySem.W.codeIn K cd_sum_at "sum_at" = true) (k_sum_at : PySem.W.keepIn K (.ref f_sum_at) = true)
    {od_numbered an_numbered : Option Addr} {sl_numbered : Array (Option Value)} {oc_numbered kV_numbered dc_numbered pm_numbered cd_numbered ct_numbered : Value} {f_numbered : Addr}
    (a_numbered : PySem.W.nsIn K mainGlobals "numbered" = some (some (.ref f_numbered))) (l_numbered : K.lookup f_numbered = some ⟨oc_numbered, od_numbered, .func (PySem.W.fnOf "numbered" "numbered" (defArgs s_numbered) (defBody s_numbered) (defScope s_numbered) .none kV_numbered dc_numbered pm_numbered an_numbered cd_numbered ct_numbered), sl_numbered⟩) (c_numbered : PySem.W.codeIn K cd_numbered "numbered" = true) (k_numbered : PySem.W.keepIn K (.ref f_numbered) = true)
    {od_side_at an_side_at : Option Addr} {sl_side_at : Array (Option Value)} {oc_side_at kV_side_at dc_side_at pm_side_at cd_side_at ct_side_at : Value} {f_side_at : Addr}
    (a_side_at : PySem.W.nsIn K mainGlobals "side_at" = some (some (.ref f_side_at))) (l_side_at : K.lookup f_side_at = some ⟨oc_side_at, od_side_at, .func (PySem.W.fnOf "side_at" "side_at" (defArgs s_side_at) (defBody s_side_at) (defScope s_side_at) .none kV_side_at dc_side_at pm_side_at an_side_at cd_side_at ct_side_at), sl_side_at⟩) (c_side_at : PySem.W.codeIn K cd_side_at "side_at" = true) (k_side_at : PySem.W.keepIn K (.ref f_side_at) = true)
    {od_side_number an_side_number : Option Addr} {sl_side_number : Array (Option Value)} {oc_side_number kV_side_number dc_side_number pm_side_number cd_side_number ct_side_number : Value} {f_side_number : Addr}
    (a_side_number : PySem.W.nsIn K mainGlobals "side_number" = some (some (.ref f_side_number))) (l_side_number : K.lookup f_side_number = some ⟨oc_side_number, od_side_number, .func (PySem.W.fnOf "side_number" "side_number" (defArgs s_side_number) (defBody s_side_number) (defScope s_side_number) .none kV_side_number dc_side_number pm_side_number an_side_number cd_side_number ct_side_number), sl_side_number⟩) (c_side_number : PySem.W.codeIn K cd_side_number "side_number" = true) (k_side_number : PySem.W.keepIn K (.ref f_side_number) = true)
    {od_Ldeck an_Ldeck : Option Addr} {sl_Ldeck : Array (Option Value)} {oc_Ldeck kV_Ldeck dc_Ldeck pm_Ldeck cd_Ldeck ct_Ldeck : Value} {f_Ldeck : Addr}
    (a_Ldeck : PySem.W.nsIn K mainGlobals "_law_deck" = some (some (.ref f_Ldeck))) (l_Ldeck : K.lookup f_Ldeck = some ⟨oc_Ldeck, od_Ldeck, .func (PySem.W.fnOf "_law_deck" "_law_deck" (defArgs s_Ldeck) (defBody s_Ldeck) (defScope s_Ldeck) .none kV_Ldeck dc_Ldeck pm_Ldeck an_Ldeck cd_Ldeck ct_Ldeck), sl_Ldeck⟩) (c_Ldeck : PySem.W.codeIn K cd_Ldeck "_law_deck" = true) (k_Ldeck : PySem.W.keepIn K (.ref f_Ldeck) = true)
    {od_Ldraw an_Ldraw : Option Addr} {sl_Ldraw : Array (Option Value)} {oc_Ldraw kV_Ldraw dc_Ldraw pm_Ldraw cd_Ldraw ct_Ldraw : Value} {f_Ldraw : Addr}
    (a_Ldraw : PySem.W.nsIn K mainGlobals "_law_draw" = some (some (.ref f_Ldraw))) (l_Ldraw : K.lookup f_Ldraw = some ⟨oc_Ldraw, od_Ldraw, .func (PySem.W.fnOf "_law_draw" "_law_draw" (defArgs s_Ldraw) (defBody s_Ldraw) (defScope s_Ldraw) .none kV_Ldraw dc_Ldraw pm_Ldraw an_Ldraw cd_Ldraw ct_Ldraw), sl_Ldraw⟩) (c_Ldraw : PySem.W.codeIn K cd_Ldraw "_law_draw" = true) (k_Ldraw : PySem.W.keepIn K (.ref f_Ldraw) = true)
    {od_Lone an_Lone : Option Addr} {sl_Lone : Array (Option Value)} {oc_Lone kV_Lone dc_Lone pm_Lone cd_Lone ct_Lone : Value} {f_Lone : Addr}
    (a_Lone : PySem.W.nsIn K mainGlobals "_law_one" = some (some (.ref f_Lone))) (l_Lone : K.lookup f_Lone = some ⟨oc_Lone, od_Lone, .func (PySem.W.fnOf "_law_one" "_law_one" (defArgs s_Lone) (defBody s_Lone) (defScope s_Lone) .none kV_Lone dc_Lone pm_Lone an_Lone cd_Lone ct_Lone), sl_Lone⟩) (c_Lone : PySem.W.codeIn K cd_Lone "_law_one" = true) (k_Lone : PySem.W.keepIn K (.ref f_Lone) = true)
    {od_Lwith an_Lwith : Option Addr} {sl_Lwith : Array (Option Value)} {oc_Lwith kV_Lwith dc_Lwith pm_Lwith cd_Lwith ct_Lwith : Value} {f_Lwith : Addr}
    (a_Lwith : PySem.W.nsIn K mainGlobals "_law_with" = some (some (.ref f_Lwith))) (l_Lwith : K.lookup f_Lwith = some ⟨oc_Lwith, od_Lwith, .func (PySem.W.fnOf "_law_with" "_law_with" (defArgs s_Lwith) (defBody s_Lwith) (defScope s_Lwith) .none kV_Lwith dc_Lwith pm_Lwith an_Lwith cd_Lwith ct_Lwith), sl_Lwith⟩) (c_Lwith : PySem.W.codeIn K cd_Lwith "_law_with" = true) (k_Lwith : PySem.W.keepIn K (.ref f_Lwith) = true)
    {od_Lrests an_Lrests : Option Addr} {sl_Lrests : Array (Option Value)} {oc_Lrests kV_Lrests dc_Lrests pm_Lrests cd_Lrests ct_Lrests : Value} {f_Lrests : Addr}
    (a_Lrests : PySem.W.nsIn K mainGlobals "_law_rests" = some (some (.ref f_Lrests))) (l_Lrests : K.lookup f_Lrests = some ⟨oc_Lrests, od_Lrests, .func (PySem.W.fnOf "_law_rests" "_law_rests" (defArgs s_Lrests) (defBody s_Lrests) (defScope s_Lrests) .none kV_Lrests dc_Lrests pm_Lrests an_Lrests cd_Lrests ct_Lrests), sl_Lrests⟩) (c_Lrests : PySem.W.codeIn K cd_Lrests "_law_rests" = true) (k_Lrests : PySem.W.keepIn K (.ref f_Lrests) = true)
    {od_Lfar_sum an_Lfar_sum : Option Addr} {sl_Lfar_sum : Array (Option Value)} {oc_Lfar_sum kV_Lfar_sum dc_Lfar_sum pm_Lfar_sum cd_Lfar_sum ct_Lfar_sum : Value} {f_Lfar_sum : Addr}
    (a_Lfar_sum : PySem.W.nsIn K mainGlobals "_law_far_sum" = some (some (.ref f_Lfar_sum))) (l_Lfar_sum : K.lookup f_Lfar_sum = some ⟨oc_Lfar_sum, od_Lfar_sum, .func (PySem.W.fnOf "_law_far_sum" "_law_far_sum" (defArgs s_Lfar_sum) (defBody s_Lfar_sum) (defScope s_Lfar_sum) .none kV_Lfar_sum dc_Lfar_sum pm_Lfar_sum an_Lfar_sum cd_Lfar_sum ct_Lfar_sum), sl_Lfar_sum⟩) (c_Lfar_sum : PySem.W.codeIn K cd_Lfar_sum "_law_far_sum" = true) (k_Lfar_sum : PySem.W.keepIn K (.ref f_Lfar_sum) = true)
    {od_Lfar_filled an_Lfar_filled : Option Addr} {sl_Lfar_filled : Array (Option Value)} {oc_Lfar_filled kV_Lfar_filled dc_Lfar_filled pm_Lfar_filled cd_Lfar_filled ct_Lfar_filled : Value} {f_Lfar_filled : Addr}
    (a_Lfar_filled : PySem.W.nsIn K mainGlobals "_law_far_filled" = some (some (.ref f_Lfar_filled))) (l_Lfar_filled : K.lookup f_Lfar_filled = some ⟨oc_Lfar_filled, od_Lfar_filled, .func (PySem.W.fnOf "_law_far_filled" "_law_far_filled" (defArgs s_Lfar_filled) (defBody s_Lfar_filled) (defScope s_Lfar_filled) .none kV_Lfar_filled dc_Lfar_filled pm_Lfar_filled an_Lfar_filled cd_Lfar_filled ct_Lfar_filled), sl_Lfar_filled⟩) (c_Lfar_filled : PySem.W.codeIn K cd_Lfar_filled "_law_far_filled" = true) (k_Lfar_filled : PySem.W.keepIn K (.ref f_Lfar_filled) = true)
    {od_Lsides an_Lsides : Option Addr} {sl_Lsides : Array (Option Value)} {oc_Lsides kV_Lsides dc_Lsides pm_Lsides cd_Lsides ct_Lsides : Value} {f_Lsides : Addr}
    (a_Lsides : PySem.W.nsIn K mainGlobals "_law_sides" = some (some (.ref f_Lsides))) (l_Lsides : K.lookup f_Lsides = some ⟨oc_Lsides, od_Lsides, .func (PySem.W.fnOf "_law_sides" "_law_sides" (defArgs s_Lsides) (defBody s_Lsides) (defScope s_Lsides) .none kV_Lsides dc_Lsides pm_Lsides an_Lsides cd_Lsides ct_Lsides), sl_Lsides⟩) (c_Lsides : PySem.W.codeIn K cd_Lsides "_law_sides" = true) (k_Lsides : PySem.W.keepIn K (.ref f_Lsides) = true)
    {od_Lpair an_Lpair : Option Addr} {sl_Lpair : Array (Option Value)} {oc_Lpair kV_Lpair dc_Lpair pm_Lpair cd_Lpair ct_Lpair : Value} {f_Lpair : Addr}
    (a_Lpair : PySem.W.nsIn K mainGlobals "_law_pair" = some (some (.ref f_Lpair))) (l_Lpair : K.lookup f_Lpair = some ⟨oc_Lpair, od_Lpair, .func (PySem.W.fnOf "_law_pair" "_law_pair" (defArgs s_Lpair) (defBody s_Lpair) (defScope s_Lpair) .none kV_Lpair dc_Lpair pm_Lpair an_Lpair cd_Lpair ct_Lpair), sl_Lpair⟩) (c_Lpair : PySem.W.codeIn K cd_Lpair "_law_pair" = true) (k_Lpair : PySem.W.keepIn K (.ref f_Lpair) = true)
    {od_Lvolume an_Lvolume : Option Addr} {sl_Lvolume : Array (Option Value)} {oc_Lvolume kV_Lvolume dc_Lvolume pm_Lvolume cd_Lvolume ct_Lvolume : Value} {f_Lvolume : Addr}
    (a_Lvolume : PySem.W.nsIn K mainGlobals "_law_volume" = some (some (.ref f_Lvolume))) (l_Lvolume : K.lookup f_Lvolume = some ⟨oc_Lvolume, od_Lvolume, .func (PySem.W.fnOf "_law_volume" "_law_volume" (defArgs s_Lvolume) (defBody s_Lvolume) (defScope s_Lvolume) .none kV_Lvolume dc_Lvolume pm_Lvolume an_Lvolume cd_Lvolume ct_Lvolume), sl_Lvolume⟩) (c_Lvolume : PySem.W.codeIn K cd_Lvolume "_law_volume" = true) (k_Lvolume : PySem.W.keepIn K (.ref f_Lvolume) = true)
    {od_Ldivisor an_Ldivisor : Option Addr} {sl_Ldivisor : Array (Option Value)} {oc_Ldivisor kV_Ldivisor dc_Ldivisor pm_Ldivisor cd_Ldivisor ct_Ldivisor : Value} {f_Ldivisor : Addr}
    (a_Ldivisor : PySem.W.nsIn K mainGlobals "_law_divisor" = some (some (.ref f_Ldivisor))) (l_Ldivisor : K.lookup f_Ldivisor = some ⟨oc_Ldivisor, od_Ldivisor, .func (PySem.W.fnOf "_law_divisor" "_law_divisor" (defArgs s_Ldivisor) (defBody s_Ldivisor) (defScope s_Ldivisor) .none kV_Ldivisor dc_Ldivisor pm_Ldivisor an_Ldivisor cd_Ldivisor ct_Ldivisor), sl_Ldivisor⟩) (c_Ldivisor : PySem.W.codeIn K cd_Ldivisor "_law_divisor" = true) (k_Ldivisor : PySem.W.keepIn K (.ref f_Ldivisor) = true)
    {od_Llcm an_Llcm : Option Addr} {sl_Llcm : Array (Option Value)} {oc_Llcm kV_Llcm dc_Llcm pm_Llcm cd_Llcm ct_Llcm : Value} {f_Llcm : Addr}
    (a_Llcm : PySem.W.nsIn K mainGlobals "_law_lcm" = some (some (.ref f_Llcm))) (l_Llcm : K.lookup f_Llcm = some ⟨oc_Llcm, od_Llcm, .func (PySem.W.fnOf "_law_lcm" "_law_lcm" (defArgs s_Llcm) (defBody s_Llcm) (defScope s_Llcm) .none kV_Llcm dc_Llcm pm_Llcm an_Llcm cd_Llcm ct_Llcm), sl_Llcm⟩) (c_Llcm : PySem.W.codeIn K cd_Llcm "_law_lcm" = true) (k_Llcm : PySem.W.keepIn K (.ref f_Llcm) = true)
    {od_Lcut_box an_Lcut_box : Option Addr} {sl_Lcut_box : Array (Option Value)} {oc_Lcut_box kV_Lcut_box dc_Lcut_box pm_Lcut_box cd_Lcut_box ct_Lcut_box : Value} {f_Lcut_box : Addr}
    (a_Lcut_box : PySem.W.nsIn K mainGlobals "_law_cut_box" = some (some (.ref f_Lcut_box))) (l_Lcut_box : K.lookup f_Lcut_box = some ⟨oc_Lcut_box, od_Lcut_box, .func (PySem.W.fnOf "_law_cut_box" "_law_cut_box" (defArgs s_Lcut_box) (defBody s_Lcut_box) (defScope s_Lcut_box) .none kV_Lcut_box dc_Lcut_box pm_Lcut_box an_Lcut_box cd_Lcut_box ct_Lcut_box), sl_Lcut_box⟩) (c_Lcut_box : PySem.W.codeIn K cd_Lcut_box "_law_cut_box" = true) (k_Lcut_box : PySem.W.keepIn K (.ref f_Lcut_box) = true)
    {od_Lplain_box an_Lplain_box : Option Addr} {sl_Lplain_box : Array (Option Value)} {oc_Lplain_box kV_Lplain_box dc_Lplain_box pm_Lplain_box cd_Lplain_box ct_Lplain_box : Value} {f_Lplain_box : Addr}
    (a_Lplain_box : PySem.W.nsIn K mainGlobals "_law_plain_box" = some (some (.ref f_Lplain_box))) (l_Lplain_box : K.lookup f_Lplain_box = some ⟨oc_Lplain_box, od_Lplain_box, .func (PySem.W.fnOf "_law_plain_box" "_law_plain_box" (defArgs s_Lplain_box) (defBody s_Lplain_box) (defScope s_Lplain_box) .none kV_Lplain_box dc_Lplain_box pm_Lplain_box an_Lplain_box cd_Lplain_box ct_Lplain_box), sl_Lplain_box⟩) (c_Lplain_box : PySem.W.codeIn K cd_Lplain_box "_law_plain_box" = true) (k_Lplain_box : PySem.W.keepIn K (.ref f_Lplain_box) = true)
    {od_Lbox an_Lbox : Option Addr} {sl_Lbox : Array (Option Value)} {oc_Lbox kV_Lbox dc_Lbox pm_Lbox cd_Lbox ct_Lbox : Value} {f_Lbox : Addr}
    (a_Lbox : PySem.W.nsIn K mainGlobals "_law_box" = some (some (.ref f_Lbox))) (l_Lbox : K.lookup f_Lbox = some ⟨oc_Lbox, od_Lbox, .func (PySem.W.fnOf "_law_box" "_law_box" (defArgs s_Lbox) (defBody s_Lbox) (defScope s_Lbox) .none kV_Lbox dc_Lbox pm_Lbox an_Lbox cd_Lbox ct_Lbox), sl_Lbox⟩) (c_Lbox : PySem.W.codeIn K cd_Lbox "_law_box" = true) (k_Lbox : PySem.W.keepIn K (.ref f_Lbox) = true)
    {od_Ltask an_Ltask : Option Addr} {sl_Ltask : Array (Option Value)} {oc_Ltask kV_Ltask dc_Ltask pm_Ltask cd_Ltask ct_Ltask : Value} {f_Ltask : Addr}
    (a_Ltask : PySem.W.nsIn K mainGlobals "_law_task" = some (some (.ref f_Ltask))) (l_Ltask : K.lookup f_Ltask = some ⟨oc_Ltask, od_Ltask, .func (PySem.W.fnOf "_law_task" "_law_task" (defArgs s_Ltask) (defBody s_Ltask) (defScope s_Ltask) .none kV_Ltask dc_Ltask pm_Ltask an_Ltask cd_Ltask ct_Ltask), sl_Ltask⟩) (c_Ltask : PySem.W.codeIn K cd_Ltask "_law_task" = true) (k_Ltask : PySem.W.keepIn K (.ref f_Ltask) = true)
    {od_Lfitting an_Lfitting : Option Addr} {sl_Lfitting : Array (Option Value)} {oc_Lfitting kV_Lfitting dc_Lfitting pm_Lfitting cd_Lfitting ct_Lfitting : Value} {f_Lfitting : Addr}
    (a_Lfitting : PySem.W.nsIn K mainGlobals "_law_fitting" = some (some (.ref f_Lfitting))) (l_Lfitting : K.lookup f_Lfitting = some ⟨oc_Lfitting, od_Lfitting, .func (PySem.W.fnOf "_law_fitting" "_law_fitting" (defArgs s_Lfitting) (defBody s_Lfitting) (defScope s_Lfitting) .none kV_Lfitting dc_Lfitting pm_Lfitting an_Lfitting cd_Lfitting ct_Lfitting), sl_Lfitting⟩) (c_Lfitting : PySem.W.codeIn K cd_Lfitting "_law_fitting" = true) (k_Lfitting : PySem.W.keepIn K (.ref f_Lfitting) = true)
    {od_next_side an_next_side : Option Addr} {sl_next_side : Array (Option Value)} {oc_next_side kV_next_side dc_next_side pm_next_side cd_next_side ct_next_side : Value} {f_next_side : Addr}
    (a_next_side : PySem.W.nsIn K mainGlobals "next_side" = some (some (.ref f_next_side))) (l_next_side : K.lookup f_next_side = some ⟨oc_next_side, od_next_side, .func (PySem.W.fnOf "next_side" "next_side" (defArgs s_next_side) (defBody s_next_side) (defScope s_next_side) .none kV_next_side dc_next_side pm_next_side an_next_side cd_next_side ct_next_side), sl_next_side⟩) (c_next_side : PySem.W.codeIn K cd_next_side "next_side" = true) (k_next_side : PySem.W.keepIn K (.ref f_next_side) = true)
    {od_sorts an_sorts : Option Addr} {sl_sorts : Array (Option Value)} {oc_sorts kV_sorts dc_sorts pm_sorts cd_sorts ct_sorts : Value} {f_sorts : Addr}
    (a_sorts : PySem.W.nsIn K mainGlobals "sorts" = some (some (.ref f_sorts))) (l_sorts : K.lookup f_sorts = some ⟨oc_sorts, od_sorts, .func (PySem.W.fnOf "sorts" "sorts" (defArgs s_sorts) (defBody s_sorts) (defScope s_sorts) .none kV_sorts dc_sorts pm_sorts an_sorts cd_sorts ct_sorts), sl_sorts⟩) (c_sorts : PySem.W.codeIn K cd_sorts "sorts" = true) (k_sorts : PySem.W.keepIn K (.ref f_sorts) = true)
    {od_state_behind an_state_behind : Option Addr} {sl_state_behind : Array (Option Value)} {oc_state_behind kV_state_behind dc_state_behind pm_state_behind cd_state_behind ct_state_behind : Value} {f_state_behind : Addr}
    (a_state_behind : PySem.W.nsIn K mainGlobals "state_behind" = some (some (.ref f_state_behind))) (l_state_behind : K.lookup f_state_behind = some ⟨oc_state_behind, od_state_behind, .func (PySem.W.fnOf "state_behind" "state_behind" (defArgs s_state_behind) (defBody s_state_behind) (defScope s_state_behind) .none kV_state_behind dc_state_behind pm_state_behind an_state_behind cd_state_behind ct_state_behind), sl_state_behind⟩) (c_state_behind : PySem.W.codeIn K cd_state_behind "state_behind" = true) (k_state_behind : PySem.W.keepIn K (.ref f_state_behind) = true)
    {od_upto an_upto : Option Addr} {sl_upto : Array (Option Value)} {oc_upto kV_upto dc_upto pm_upto cd_upto ct_upto : Value} {f_upto : Addr}
    (a_upto : PySem.W.nsIn K mainGlobals "upto" = some (some (.ref f_upto))) (l_upto : K.lookup f_upto = some ⟨oc_upto, od_upto, .func (PySem.W.fnOf "upto" "upto" (defArgs s_upto) (defBody s_upto) (defScope s_upto) .none kV_upto dc_upto pm_upto an_upto cd_upto ct_upto), sl_upto⟩) (c_upto : PySem.W.codeIn K cd_upto "upto" = true) (k_upto : PySem.W.keepIn K (.ref f_upto) = true)
    {od_ways_from an_ways_from : Option Addr} {sl_ways_from : Array (Option Value)} {oc_ways_from kV_ways_from dc_ways_from pm_ways_from cd_ways_from ct_ways_from : Value} {f_ways_from : Addr}
    (a_ways_from : PySem.W.nsIn K mainGlobals "ways_from" = some (some (.ref f_ways_from))) (l_ways_from : K.lookup f_ways_from = some ⟨oc_ways_from, od_ways_from, .func (PySem.W.fnOf "ways_from" "ways_from" (defArgs s_ways_from) (defBody s_ways_from) (defScope s_ways_from) .none kV_ways_from dc_ways_from pm_ways_from an_ways_from cd_ways_from ct_ways_from), sl_ways_from⟩) (c_ways_from : PySem.W.codeIn K cd_ways_from "ways_from" = true) (k_ways_from : PySem.W.keepIn K (.ref f_ways_from) = true)
    {od_count_boxes an_count_boxes : Option Addr} {sl_count_boxes : Array (Option Value)} {oc_count_boxes kV_count_boxes dc_count_boxes pm_count_boxes cd_count_boxes ct_count_boxes : Value} {f_count_boxes : Addr}
    (a_count_boxes : PySem.W.nsIn K mainGlobals "count_boxes" = some (some (.ref f_count_boxes))) (l_count_boxes : K.lookup f_count_boxes = some ⟨oc_count_boxes, od_count_boxes, .func (PySem.W.fnOf "count_boxes" "count_boxes" (defArgs s_count_boxes) (defBody s_count_boxes) (defScope s_count_boxes) .none kV_count_boxes dc_count_boxes pm_count_boxes an_count_boxes cd_count_boxes ct_count_boxes), sl_count_boxes⟩) (c_count_boxes : PySem.W.codeIn K cd_count_boxes "count_boxes" = true) (k_count_boxes : PySem.W.keepIn K (.ref f_count_boxes) = true)
    {od_is_integer an_is_integer : Option Addr} {sl_is_integer : Array (Option Value)} {oc_is_integer kV_is_integer dc_is_integer pm_is_integer cd_is_integer ct_is_integer : Value} {f_is_integer : Addr}
    (a_is_integer : PySem.W.nsIn K mainGlobals "is_integer" = some (some (.ref f_is_integer))) (l_is_integer : K.lookup f_is_integer = some ⟨oc_is_integer, od_is_integer, .func (PySem.W.fnOf "is_integer" "is_integer" (defArgs s_is_integer) (defBody s_is_integer) (defScope s_is_integer) .none kV_is_integer dc_is_integer pm_is_integer an_is_integer cd_is_integer ct_is_integer), sl_is_integer⟩) (c_is_integer : PySem.W.codeIn K cd_is_integer "is_integer" = true) (k_is_integer : PySem.W.keepIn K (.ref f_is_integer) = true)
    {od_sort_of an_sort_of : Option Addr} {sl_sort_of : Array (Option Value)} {oc_sort_of kV_sort_of dc_sort_of pm_sort_of cd_sort_of ct_sort_of : Value} {f_sort_of : Addr}
    (a_sort_of : PySem.W.nsIn K mainGlobals "sort_of" = some (some (.ref f_sort_of))) (l_sort_of : K.lookup f_sort_of = some ⟨oc_sort_of, od_sort_of, .func (PySem.W.fnOf "sort_of" "sort_of" (defArgs s_sort_of) (defBody s_sort_of) (defScope s_sort_of) .none kV_sort_of dc_sort_of pm_sort_of an_sort_of cd_sort_of ct_sort_of), sl_sort_of⟩) (c_sort_of : PySem.W.codeIn K cd_sort_of "sort_of" = true) (k_sort_of : PySem.W.keepIn K (.ref f_sort_of) = true)
    {od_box_at an_box_at : Option Addr} {sl_box_at : Array (Option Value)} {oc_box_at kV_box_at dc_box_at pm_box_at cd_box_at ct_box_at : Value} {f_box_at : Addr}
    (a_box_at : PySem.W.nsIn K mainGlobals "box_at" = some (some (.ref f_box_at))) (l_box_at : K.lookup f_box_at = some ⟨oc_box_at, od_box_at, .func (PySem.W.fnOf "box_at" "box_at" (defArgs s_box_at) (defBody s_box_at) (defScope s_box_at) .none kV_box_at dc_box_at pm_box_at an_box_at cd_box_at ct_box_at), sl_box_at⟩) (c_box_at : PySem.W.codeIn K cd_box_at "box_at" = true) (k_box_at : PySem.W.keepIn K (.ref f_box_at) = true)
    {od_box_number an_box_number : Option Addr} {sl_box_number : Array (Option Value)} {oc_box_number kV_box_number dc_box_number pm_box_number cd_box_number ct_box_number : Value} {f_box_number : Addr}
    (a_box_number : PySem.W.nsIn K mainGlobals "box_number" = some (some (.ref f_box_number))) (l_box_number : K.lookup f_box_number = some ⟨oc_box_number, od_box_number, .func (PySem.W.fnOf "box_number" "box_number" (defArgs s_box_number) (defBody s_box_number) (defScope s_box_number) .none kV_box_number dc_box_number pm_box_number an_box_number cd_box_number ct_box_number), sl_box_number⟩) (c_box_number : PySem.W.codeIn K cd_box_number "box_number" = true) (k_box_number : PySem.W.keepIn K (.ref f_box_number) = true)
    {od_Lneighbours_right an_Lneighbours_right : Option Addr} {sl_Lneighbours_right : Array (Option Value)} {oc_Lneighbours_right kV_Lneighbours_right dc_Lneighbours_right pm_Lneighbours_right cd_Lneighbours_right ct_Lneighbours_right : Value} {f_Lneighbours_right : Addr}
    (a_Lneighbours_right : PySem.W.nsIn K mainGlobals "_law_neighbours_right" = some (some (.ref f_Lneighbours_right))) (l_Lneighbours_right : K.lookup f_Lneighbours_right = some ⟨oc_Lneighbours_right, od_Lneighbours_right, .func (PySem.W.fnOf "_law_neighbours_right" "_law_neighbours_right" (defArgs s_Lneighbours_right) (defBody s_Lneighbours_right) (defScope s_Lneighbours_right) .none kV_Lneighbours_right dc_Lneighbours_right pm_Lneighbours_right an_Lneighbours_right cd_Lneighbours_right ct_Lneighbours_right), sl_Lneighbours_right⟩) (c_Lneighbours_right : PySem.W.codeIn K cd_Lneighbours_right "_law_neighbours_right" = true) (k_Lneighbours_right : PySem.W.keepIn K (.ref f_Lneighbours_right) = true)
    {od_Lone_and_more an_Lone_and_more : Option Addr} {sl_Lone_and_more : Array (Option Value)} {oc_Lone_and_more kV_Lone_and_more dc_Lone_and_more pm_Lone_and_more cd_Lone_and_more ct_Lone_and_more : Value} {f_Lone_and_more : Addr}
    (a_Lone_and_more : PySem.W.nsIn K mainGlobals "_law_one_and_more" = some (some (.ref f_Lone_and_more))) (l_Lone_and_more : K.lookup f_Lone_and_more = some ⟨oc_Lone_and_more, od_Lone_and_more, .func (PySem.W.fnOf "_law_one_and_more" "_law_one_and_more" (defArgs s_Lone_and_more) (defBody s_Lone_and_more) (defScope s_Lone_and_more) .none kV_Lone_and_more dc_Lone_and_more pm_Lone_and_more an_Lone_and_more cd_Lone_and_more ct_Lone_and_more), sl_Lone_and_more⟩) (c_Lone_and_more : PySem.W.codeIn K cd_Lone_and_more "_law_one_and_more" = true) (k_Lone_and_more : PySem.W.keepIn K (.ref f_Lone_and_more) = true)
    {od_law an_law : Option Addr} {sl_law : Array (Option Value)} {oc_law kV_law dc_law pm_law cd_law ct_law : Value} {f_law : Addr}
    (a_law : PySem.W.nsIn K mainGlobals "law" = some (some (.ref f_law))) (l_law : K.lookup f_law = some ⟨oc_law, od_law, .func (PySem.W.fnOf "law" "law" (defArgs s_law) (defBody s_law) (defScope s_law) .none kV_law dc_law pm_law an_law cd_law ct_law), sl_law⟩) (c_law : PySem.W.codeIn K cd_law "law" = true) (k_law : PySem.W.keepIn K (.ref f_law) = true)
    (z_min : PySem.W.nsIn K mainGlobals "min" = some none)
    (z_max : PySem.W.nsIn K mainGlobals "max" = some none)
    (z_enumerate : PySem.W.nsIn K mainGlobals "enumerate" = some none)
    (z_len : PySem.W.nsIn K mainGlobals "len" = some none)
    (z_abs : PySem.W.nsIn K mainGlobals "abs" = some none)
    (z_int : PySem.W.nsIn K mainGlobals "int" = some none)
    (z_range : PySem.W.nsIn K mainGlobals "range" = some none)
    (z_tuple : PySem.W.nsIn K mainGlobals "tuple" = some none)
    (z_list : PySem.W.nsIn K mainGlobals "list" = some none)
    (z_isinstance : PySem.W.nsIn K mainGlobals "isinstance" = some none)
    (z_bool : PySem.W.nsIn K mainGlobals "bool" = some none)
    (z_repr : PySem.W.nsIn K mainGlobals "repr" = some none)
    {t_STEPS : Tok} (v_STEPS : PySem.W.nsIn K mainGlobals "STEPS" = some (some (.str "steps" t_STEPS)))
    {t_SUMS : Tok} (v_SUMS : PySem.W.nsIn K mainGlobals "SUMS" = some (some (.str "sums" t_SUMS)))
    {t_NONE : Tok} (v_NONE : PySem.W.nsIn K mainGlobals "NONE" = some (some (.str "none" t_NONE)))
    {t_DEAD : Tok} (v_DEAD : PySem.W.nsIn K mainGlobals "DEAD" = some (some (.int 4 t_DEAD)))
    {t_FREE : Tok} (v_FREE : PySem.W.nsIn K mainGlobals "FREE" = some (some (.int 0 t_FREE)))
    {mc_sum_at mP_sum_at : Addr} (tc_sum_at : cd_sum_at = .ref mc_sum_at) (tm_sum_at : (mP_sum_at, (envOfC "sum_at" (defScope s_sum_at) 0 0 .none).qual ++ "<lambda>") ∈ Tb.T) (tu_sum_at : ∀ p ∈ Tb.T, p.1 = mP_sum_at → p.2 = (envOfC "sum_at" (defScope s_sum_at) 0 0 .none).qual ++ "<lambda>")
    {mc_box_at mP_box_at : Addr} (tc_box_at : cd_box_at = .ref mc_box_at) (tm_box_at : (mP_box_at, (envOfC "box_at" (defScope s_box_at) 0 0 .none).qual ++ "<lambda>") ∈ Tb.T) (tu_box_at : ∀ p ∈ Tb.T, p.1 = mP_box_at → p.2 = (envOfC "box_at" (defScope s_box_at) 0 0 .none).qual ++ "<lambda>") :
    ∃ fd : FuncData, OneArgT l.prog w K mg 23 fa "_law_script" (liftSp K spLaw) [(mc_sum_at, mP_sum_at), (mc_box_at, mP_box_at)] fd := by
  have e := hfa.symm.trans (PySem.W.mg_of X G a_law)
  cases e
  have F_common := fun_mk (st := s_common) l_common c_common k_common
  have b_common := F_common.binds (ps := ["one", "other"]) fun _ _ _ _ _ _ us hl => match us, hl with | [_, _], _ => rfl
  have F_joint := fun_mk (st := s_joint) l_joint c_joint k_joint
  have b_joint := F_joint.binds (ps := ["one", "other"]) fun _ _ _ _ _ _ us hl => match us, hl with | [_, _], _ => rfl
  have F_inverse := fun_mk (st := s_inverse) l_inverse c_inverse k_inverse
  have b_inverse := F_inverse.binds (ps := ["one", "other"]) fun _ _ _ _ _ _ us hl => match us, hl with | [_, _], _ => rfl
  have F_least_times := fun_mk (st := s_least_times) l_least_times c_least_times k_least_times
  have b_least_times := F_least_times.binds (ps := ["one", "other", "side"]) fun _ _ _ _ _ _ us hl => match us, hl with | [_, _, _], _ => rfl
  have F_is_sum := fun_mk (st := s_is_sum) l_is_sum c_is_sum k_is_sum
  have b_is_sum := F_is_sum.binds (ps := ["one", "other", "side"]) fun _ _ _ _ _ _ us hl => match us, hl with | [_, _, _], _ => rfl
  have F_sums_of := fun_mk (st := s_sums_of) l_sums_of c_sums_of k_sums_of
  have b_sums_of := F_sums_of.binds (ps := ["one", "other"]) fun _ _ _ _ _ _ us hl => match us, hl with | [_, _], _ => rfl
  have F_rests := fun_mk (st := s_rests) l_rests c_rests k_rests
  have b_rests := F_rests.binds (ps := ["brick", "box", "axis"]) fun _ _ _ _ _ _ us hl => match us, hl with | [_, _, _], _ => rfl
  have F_along := fun_mk (st := s_along) l_along c_along k_along
  have b_along := F_along.binds (ps := ["pair", "box", "axis"]) fun _ _ _ _ _ _ us hl => match us, hl with | [_, _, _], _ => rfl
  have F_floors := fun_mk (st := s_floors) l_floors c_floors k_floors
  have b_floors := F_floors.binds (ps := ["many", "by", "step", "begin"]) fun _ _ _ _ _ _ us hl => match us, hl with | [_, _, _, _], _ => rfl
  have F_count_sums := fun_mk (st := s_count_sums) l_count_sums c_count_sums k_count_sums
  have b_count_sums := F_count_sums.binds (ps := ["one", "other", "most"]) fun _ _ _ _ _ _ us hl => match us, hl with | [_, _, _], _ => rfl
  have F_count_by := fun_mk (st := s_count_by) l_count_by c_count_by k_count_by
  have b_count_by := F_count_by.binds (ps := ["way", "most"]) fun _ _ _ _ _ _ us hl => match us, hl with | [_, _], _ => rfl
  have F_count_along := fun_mk (st := s_count_along) l_count_along c_count_along k_count_along
  have b_count_along := F_count_along.binds (ps := ["pair", "box", "axis", "most"]) fun _ _ _ _ _ _ us hl => match us, hl with | [_, _, _, _], _ => rfl
  have F_least_with := fun_mk (st := s_least_with) l_least_with c_least_with k_least_with
  have b_least_with := F_least_with.binds (ps := ["is_so", "most"]) fun _ _ _ _ _ _ us hl => match us, hl with | [_, _], _ => rfl
  have F_sum_at := fun_mk (st := s_sum_at) l_sum_at c_sum_at k_sum_at
  have b_sum_at := F_sum_at.binds (ps := ["low", "high", "number"]) fun _ _ _ _ _ _ us hl => match us, hl with | [_, _, _], _ => rfl
  have F_numbered := fun_mk (st := s_numbered) l_numbered c_numbered k_numbered
  have b_numbered := F_numbered.binds (ps := ["way", "number"]) fun _ _ _ _ _ _ us hl => match us, hl with | [_, _], _ => rfl
  have F_side_at := fun_mk (st := s_side_at) l_side_at c_side_at k_side_at
  have b_side_at := F_side_at.binds (ps := ["pair", "box", "axis", "number"]) fun _ _ _ _ _ _ us hl => match us, hl with | [_, _, _, _], _ => rfl
  have F_side_number := fun_mk (st := s_side_number) l_side_number c_side_number k_side_number
  have b_side_number := F_side_number.binds (ps := ["pair", "box", "axis", "side"]) fun _ _ _ _ _ _ us hl => match us, hl with | [_, _, _, _], _ => rfl
  have F_Ldeck := fun_mk (st := s_Ldeck) l_Ldeck c_Ldeck k_Ldeck
  have b_Ldeck := F_Ldeck.binds (ps := ["_law_script"]) fun _ _ _ _ _ _ us hl => match us, hl with | [_], _ => rfl
  have F_Ldraw := fun_mk (st := s_Ldraw) l_Ldraw c_Ldraw k_Ldraw
  have b_Ldraw := F_Ldraw.binds (ps := ["_law_deck_here", "_law_many"]) fun _ _ _ _ _ _ us hl => match us, hl with | [_, _], _ => rfl
  have F_Lone := fun_mk (st := s_Lone) l_Lone c_Lone k_Lone
  have b_Lone := F_Lone.binds (ps := ["_law_deck_here", "_law_items"]) fun _ _ _ _ _ _ us hl => match us, hl with | [_, _], _ => rfl
  have F_Lwith := fun_mk (st := s_Lwith) l_Lwith c_Lwith k_Lwith
  have b_Lwith := F_Lwith.binds (ps := ["_law_box_here", "_law_axis", "_law_side"]) fun _ _ _ _ _ _ us hl => match us, hl with | [_, _, _], _ => rfl
  have F_Lrests := fun_mk (st := s_Lrests) l_Lrests c_Lrests k_Lrests
  have b_Lrests := F_Lrests.binds (ps := ["_law_brick", "_law_box_here"]) fun _ _ _ _ _ _ us hl => match us, hl with | [_, _], _ => rfl
  have F_Lfar_sum := fun_mk (st := s_Lfar_sum) l_Lfar_sum c_Lfar_sum k_Lfar_sum
  have b_Lfar_sum := F_Lfar_sum.binds (ps := ["_law_side", "_law_one_here", "_law_other"]) fun _ _ _ _ _ _ us hl => match us, hl with | [_, _, _], _ => rfl
  have F_Lfar_filled := fun_mk (st := s_Lfar_filled) l_Lfar_filled c_Lfar_filled k_Lfar_filled
  have b_Lfar_filled := F_Lfar_filled.binds (ps := ["_law_pair_here", "_law_box_here"]) fun _ _ _ _ _ _ us hl => match us, hl with | [_, _], _ => rfl
  have F_Lsides := fun_mk (st := s_Lsides) l_Lsides c_Lsides k_Lsides
  have b_Lsides := F_Lsides.binds (ps := ["_law_deck_here", "_law_axes", "_law_most"]) fun _ _ _ _ _ _ us hl => match us, hl with | [_, _, _], _ => rfl
  have F_Lpair := fun_mk (st := s_Lpair) l_Lpair c_Lpair k_Lpair
  have b_Lpair := F_Lpair.binds (ps := ["_law_deck_here", "_law_axes", "_law_most"]) fun _ _ _ _ _ _ us hl => match us, hl with | [_, _, _], _ => rfl
  have F_Lvolume := fun_mk (st := s_Lvolume) l_Lvolume c_Lvolume k_Lvolume
  have b_Lvolume := F_Lvolume.binds (ps := ["_law_sides_here"]) fun _ _ _ _ _ _ us hl => match us, hl with | [_], _ => rfl
  have F_Ldivisor := fun_mk (st := s_Ldivisor) l_Ldivisor c_Ldivisor k_Ldivisor
  have b_Ldivisor := F_Ldivisor.binds (ps := ["_law_one_here", "_law_other"]) fun _ _ _ _ _ _ us hl => match us, hl with | [_, _], _ => rfl
  have F_Llcm := fun_mk (st := s_Llcm) l_Llcm c_Llcm k_Llcm
  have b_Llcm := F_Llcm.binds (ps := ["_law_one_here", "_law_other"]) fun _ _ _ _ _ _ us hl => match us, hl with | [_, _], _ => rfl
  have F_Lcut_box := fun_mk (st := s_Lcut_box) l_Lcut_box c_Lcut_box k_Lcut_box
  have b_Lcut_box := F_Lcut_box.binds (ps := ["_law_deck_here", "_law_pair_here", "_law_many"]) fun _ _ _ _ _ _ us hl => match us, hl with | [_, _, _], _ => rfl
  have F_Lplain_box := fun_mk (st := s_Lplain_box) l_Lplain_box c_Lplain_box k_Lplain_box
  have b_Lplain_box := F_Lplain_box.binds (ps := ["_law_deck_here", "_law_pair_here", "_law_many"]) fun _ _ _ _ _ _ us hl => match us, hl with | [_, _, _], _ => rfl
  have F_Lbox := fun_mk (st := s_Lbox) l_Lbox c_Lbox k_Lbox
  have b_Lbox := F_Lbox.binds (ps := ["_law_deck_here", "_law_pair_here", "_law_most", "_law_cells"]) fun _ _ _ _ _ _ us hl => match us, hl with | [_, _, _, _], _ => rfl
  have F_Ltask := fun_mk (st := s_Ltask) l_Ltask c_Ltask k_Ltask
  have b_Ltask := F_Ltask.binds (ps := ["_law_deck_here"]) fun _ _ _ _ _ _ us hl => match us, hl with | [_], _ => rfl
  have F_Lfitting := fun_mk (st := s_Lfitting) l_Lfitting c_Lfitting k_Lfitting
  have b_Lfitting := F_Lfitting.binds (ps := ["_law_pair_here", "_law_box_here", "_law_axis", "_law_most"]) fun _ _ _ _ _ _ us hl => match us, hl with | [_, _, _, _], _ => rfl
  have F_next_side := fun_mk (st := s_next_side) l_next_side c_next_side k_next_side
  have b_next_side := F_next_side.binds (ps := ["pair", "box", "axis", "least"]) fun _ _ _ _ _ _ us hl => match us, hl with | [_, _, _, _], _ => rfl
  have F_sorts := fun_mk (st := s_sorts) l_sorts c_sorts k_sorts
  have b_sorts := F_sorts.binds (ps := ["pair", "axis", "most"]) fun _ _ _ _ _ _ us hl => match us, hl with | [_, _, _], _ => rfl
  have F_state_behind := fun_mk (st := s_state_behind) l_state_behind c_state_behind k_state_behind
  have b_state_behind := F_state_behind.binds (ps := ["state", "sort"]) fun _ _ _ _ _ _ us hl => match us, hl with | [_, _], _ => rfl
  have F_upto := fun_mk (st := s_upto) l_upto c_upto k_upto
  have b_upto := F_upto.binds (ps := ["pair", "most", "axis", "state", "side"]) fun _ _ _ _ _ _ us hl => match us, hl with | [_, _, _, _, _], _ => rfl
  have F_ways_from := fun_mk (st := s_ways_from) l_ways_from c_ways_from k_ways_from
  have b_ways_from := F_ways_from.binds (ps := ["pair", "most", "axis", "state"]) fun _ _ _ _ _ _ us hl => match us, hl with | [_, _, _, _], _ => rfl
  have F_count_boxes := fun_mk (st := s_count_boxes) l_count_boxes c_count_boxes k_count_boxes
  have b_count_boxes := F_count_boxes.binds (ps := ["pair", "most"]) fun _ _ _ _ _ _ us hl => match us, hl with | [_, _], _ => rfl
  have F_is_integer := fun_mk (st := s_is_integer) l_is_integer c_is_integer k_is_integer
  have b_is_integer := F_is_integer.binds (ps := ["value", "low", "high"]) fun _ _ _ _ _ _ us hl => match us, hl with | [_, _, _], _ => rfl
  have F_sort_of := fun_mk (st := s_sort_of) l_sort_of c_sort_of k_sort_of
  have b_sort_of := F_sort_of.binds (ps := ["pair", "axis", "side"]) fun _ _ _ _ _ _ us hl => match us, hl with | [_, _, _], _ => rfl
  have F_box_at := fun_mk (st := s_box_at) l_box_at c_box_at k_box_at
  have b_box_at := F_box_at.binds (ps := ["pair", "most", "number"]) fun _ _ _ _ _ _ us hl => match us, hl with | [_, _, _], _ => rfl
  have F_box_number := fun_mk (st := s_box_number) l_box_number c_box_number k_box_number
  have b_box_number := F_box_number.binds (ps := ["pair", "most", "box"]) fun _ _ _ _ _ _ us hl => match us, hl with | [_, _, _], _ => rfl
  have F_Lneighbours_right := fun_mk (st := s_Lneighbours_right) l_Lneighbours_right c_Lneighbours_right k_Lneighbours_right
  have b_Lneighbours_right := F_Lneighbours_right.binds (ps := ["_law_one_here", "_law_rows", "_law_side", "_law_number"]) fun _ _ _ _ _ _ us hl => match us, hl with | [_, _, _, _], _ => rfl
  have F_Lone_and_more := fun_mk (st := s_Lone_and_more) l_Lone_and_more c_Lone_and_more k_Lone_and_more
  have b_Lone_and_more := F_Lone_and_more.binds (ps := ["_law_deck_here"]) fun _ _ _ _ _ _ us hl => match us, hl with | [_], _ => rfl
  have F_law := fun_mk (st := s_law) l_law c_law k_law
  refine ⟨PySem.W.fnOf "law" "law" (defArgs s_law) (defBody s_law) (defScope s_law) .none kV_law dc_law pm_law an_law cd_law ct_law, fun s v => .of_eq rfl, fun base _ _ hT => ?_⟩
  have O_common := ok_common (P := l.prog) (w := w) (base := base) (mg := mg) F_common
  have O_inverse := ok_inverse (P := l.prog) (w := w) (base := base) (mg := mg) F_inverse
  have O_sums_of := ok_sums_of (P := l.prog) (w := w) (base := base) (mg := mg) F_sums_of (PySem.W.mg_none_of X G z_min) (PySem.W.mg_none_of X G z_max) (PySem.W.mg_of X G v_STEPS) (PySem.W.mg_of X G v_SUMS)
  have O_rests := ok_rests (P := l.prog) (w := w) (base := base) (mg := mg) F_rests (PySem.W.mg_none_of X G z_enumerate)
  have O_floors := ok_floors (P := l.prog) (w := w) (base := base) (mg := mg) F_floors
  have O_least_with := ok_least_with (P := l.prog) (w := w) (base := base) (mg := mg) F_least_with
  have O_Ldeck := ok_Ldeck (P := l.prog) (w := w) (base := base) (mg := mg) F_Ldeck (PySem.W.mg_none_of X G z_abs) (PySem.W.mg_none_of X G z_len)
  have O_Ldraw := ok_Ldraw (P := l.prog) (w := w) (base := base) (mg := mg) F_Ldraw (PySem.W.mg_none_of X G z_int) (PySem.W.mg_none_of X G z_len)
  have O_Lwith := ok_Lwith (P := l.prog) (w := w) (base := base) (mg := mg) F_Lwith
  have O_Lrests := ok_Lrests (P := l.prog) (w := w) (base := base) (mg := mg) F_Lrests (PySem.W.mg_none_of X G z_len) (PySem.W.mg_none_of X G z_range) (PySem.W.mg_none_of X G z_int)
  have O_Lfar_sum := ok_Lfar_sum (P := l.prog) (w := w) (base := base) (mg := mg) F_Lfar_sum (PySem.W.mg_none_of X G z_range) (PySem.W.mg_none_of X G z_int)
  have O_Lvolume := ok_Lvolume (P := l.prog) (w := w) (base := base) (mg := mg) F_Lvolume
  have O_Ldivisor := ok_Ldivisor (P := l.prog) (w := w) (base := base) (mg := mg) F_Ldivisor
  have O_state_behind := ok_state_behind (P := l.prog) (w := w) (base := base) (mg := mg) F_state_behind (PySem.W.mg_of X G v_DEAD) (PySem.W.mg_of X G v_FREE)
  have O_is_integer := ok_is_integer (P := l.prog) (w := w) (base := base) (mg := mg) F_is_integer (PySem.W.mg_none_of X G z_isinstance) (PySem.W.mg_none_of X G z_bool) (PySem.W.mg_none_of X G z_int)
  have O_joint := ok_joint (P := l.prog) (w := w) (base := base) (mg := mg) F_joint O_common (PySem.W.mg_of X G a_common) k_common b_common
  have O_least_times := ok_least_times (P := l.prog) (w := w) (base := base) (mg := mg) F_least_times O_inverse (PySem.W.mg_of X G a_inverse) k_inverse b_inverse O_common (PySem.W.mg_of X G a_common) k_common b_common
  have O_count_sums := ok_count_sums (P := l.prog) (w := w) (base := base) (mg := mg) F_count_sums (PySem.W.mg_none_of X G z_min) O_floors (PySem.W.mg_of X G a_floors) k_floors b_floors O_common (PySem.W.mg_of X G a_common) k_common b_common
  have O_Lone := ok_Lone (P := l.prog) (w := w) (base := base) (mg := mg) F_Lone (PySem.W.mg_none_of X G z_len) O_Ldraw (PySem.W.mg_of X G a_Ldraw) k_Ldraw b_Ldraw
  have O_Lfar_filled := ok_Lfar_filled (P := l.prog) (w := w) (base := base) (mg := mg) F_Lfar_filled (PySem.W.mg_none_of X G z_len) O_Lfar_sum (PySem.W.mg_of X G a_Lfar_sum) k_Lfar_sum b_Lfar_sum O_Lrests (PySem.W.mg_of X G a_Lrests) k_Lrests b_Lrests
  have O_Lsides := ok_Lsides (P := l.prog) (w := w) (base := base) (mg := mg) F_Lsides (PySem.W.mg_none_of X G z_range) (PySem.W.mg_none_of X G z_tuple) O_Ldraw (PySem.W.mg_of X G a_Ldraw) k_Ldraw b_Ldraw
  have O_Llcm := ok_Llcm (P := l.prog) (w := w) (base := base) (mg := mg) F_Llcm O_Ldivisor (PySem.W.mg_of X G a_Ldivisor) k_Ldivisor b_Ldivisor
  have O_is_sum := ok_is_sum (P := l.prog) (w := w) (base := base) (mg := mg) F_is_sum O_least_times (PySem.W.mg_of X G a_least_times) k_least_times b_least_times
  have O_count_by := ok_count_by (P := l.prog) (w := w) (base := base) (mg := mg) F_count_by O_count_sums (PySem.W.mg_of X G a_count_sums) k_count_sums b_count_sums
  have O_Lpair := ok_Lpair (P := l.prog) (w := w) (base := base) (mg := mg) F_Lpair O_Ldraw (PySem.W.mg_of X G a_Ldraw) k_Ldraw b_Ldraw O_Lsides (PySem.W.mg_of X G a_Lsides) k_Lsides b_Lsides
  have O_Lcut_box := ok_Lcut_box (P := l.prog) (w := w) (base := base) (mg := mg) F_Lcut_box (PySem.W.mg_none_of X G z_tuple) (PySem.W.mg_none_of X G z_len) (PySem.W.mg_none_of X G z_range) O_Ldraw (PySem.W.mg_of X G a_Ldraw) k_Ldraw b_Ldraw O_Llcm (PySem.W.mg_of X G a_Llcm) k_Llcm b_Llcm
  have O_Lplain_box := ok_Lplain_box (P := l.prog) (w := w) (base := base) (mg := mg) F_Lplain_box (PySem.W.mg_none_of X G z_tuple) (PySem.W.mg_none_of X G z_list) O_Ldraw (PySem.W.mg_of X G a_Ldraw) k_Ldraw b_Ldraw O_Lone (PySem.W.mg_of X G a_Lone) k_Lone b_Lone
  have O_Lfitting := ok_Lfitting (P := l.prog) (w := w) (base := base) (mg := mg) F_Lfitting (PySem.W.mg_none_of X G z_range) O_Lfar_filled (PySem.W.mg_of X G a_Lfar_filled) k_Lfar_filled b_Lfar_filled O_Lwith (PySem.W.mg_of X G a_Lwith) k_Lwith b_Lwith
  have O_sorts := ok_sorts (P := l.prog) (w := w) (base := base) (mg := mg) F_sorts O_count_sums (PySem.W.mg_of X G a_count_sums) k_count_sums b_count_sums O_joint (PySem.W.mg_of X G a_joint) k_joint b_joint
  have O_along := ok_along (P := l.prog) (w := w) (base := base) (mg := mg) F_along (PySem.W.mg_none_of X G z_len) (PySem.W.mg_of X G v_NONE) (PySem.W.mg_of X G v_STEPS) O_is_sum (PySem.W.mg_of X G a_is_sum) k_is_sum b_is_sum O_joint (PySem.W.mg_of X G a_joint) k_joint b_joint O_sums_of (PySem.W.mg_of X G a_sums_of) k_sums_of b_sums_of O_rests (PySem.W.mg_of X G a_rests) k_rests b_rests
  have O_Lbox := ok_Lbox (P := l.prog) (w := w) (base := base) (mg := mg) F_Lbox (PySem.W.mg_none_of X G z_len) (PySem.W.mg_none_of X G z_range) (PySem.W.mg_none_of X G z_max) O_Lvolume (PySem.W.mg_of X G a_Lvolume) k_Lvolume b_Lvolume O_Lone (PySem.W.mg_of X G a_Lone) k_Lone b_Lone O_Lplain_box (PySem.W.mg_of X G a_Lplain_box) k_Lplain_box b_Lplain_box O_Lcut_box (PySem.W.mg_of X G a_Lcut_box) k_Lcut_box b_Lcut_box O_Ldraw (PySem.W.mg_of X G a_Ldraw) k_Ldraw b_Ldraw O_Lsides (PySem.W.mg_of X G a_Lsides) k_Lsides b_Lsides
  have O_sort_of := ok_sort_of (P := l.prog) (w := w) (base := base) (mg := mg) F_sort_of (PySem.W.mg_none_of X G z_int) (PySem.W.mg_of X G v_DEAD) O_is_sum (PySem.W.mg_of X G a_is_sum) k_is_sum b_is_sum
  have O_count_along := ok_count_along (P := l.prog) (w := w) (base := base) (mg := mg) F_count_along O_count_by (PySem.W.mg_of X G a_count_by) k_count_by b_count_by O_along (PySem.W.mg_of X G a_along) k_along b_along
  have O_sum_at := ok_sum_at (P := l.prog) (w := w) (base := base) (mg := mg) F_sum_at O_count_sums (PySem.W.mg_of X G a_count_sums) k_count_sums b_count_sums O_least_with (PySem.W.mg_of X G a_least_with) k_least_with b_least_with O_joint (PySem.W.mg_of X G a_joint) k_joint b_joint O_common (PySem.W.mg_of X G a_common) k_common b_common (hT (mc_sum_at, mP_sum_at) (by simp)) tc_sum_at tm_sum_at tu_sum_at
  have O_side_number := ok_side_number (P := l.prog) (w := w) (base := base) (mg := mg) F_side_number O_count_by (PySem.W.mg_of X G a_count_by) k_count_by b_count_by O_along (PySem.W.mg_of X G a_along) k_along b_along
  have O_Ltask := ok_Ltask (P := l.prog) (w := w) (base := base) (mg := mg) F_Ltask O_Ldraw (PySem.W.mg_of X G a_Ldraw) k_Ldraw b_Ldraw O_Lbox (PySem.W.mg_of X G a_Lbox) k_Lbox b_Lbox O_Lpair (PySem.W.mg_of X G a_Lpair) k_Lpair b_Lpair
  have O_numbered := ok_numbered (P := l.prog) (w := w) (base := base) (mg := mg) F_numbered O_sum_at (PySem.W.mg_of X G a_sum_at) k_sum_at b_sum_at
  have O_side_at := ok_side_at (P := l.prog) (w := w) (base := base) (mg := mg) F_side_at O_numbered (PySem.W.mg_of X G a_numbered) k_numbered b_numbered O_along (PySem.W.mg_of X G a_along) k_along b_along
  have O_next_side := ok_next_side (P := l.prog) (w := w) (base := base) (mg := mg) F_next_side O_numbered (PySem.W.mg_of X G a_numbered) k_numbered b_numbered O_count_by (PySem.W.mg_of X G a_count_by) k_count_by b_count_by O_along (PySem.W.mg_of X G a_along) k_along b_along
  have O_ways_from := ok_ways_from (P := l.prog) (w := w) (base := base) (mg := mg) F_ways_from F_upto (PySem.W.mg_none_of X G z_len) (PySem.W.mg_none_of X G z_enumerate) (PySem.W.mg_of X G v_DEAD) O_sorts (PySem.W.mg_of X G a_sorts) k_sorts b_sorts O_state_behind (PySem.W.mg_of X G a_state_behind) k_state_behind b_state_behind (PySem.W.mg_of X G a_ways_from) k_ways_from b_ways_from (PySem.W.mg_of X G a_upto) k_upto b_upto
  have O_upto := ok_upto (P := l.prog) (w := w) (base := base) (mg := mg) F_ways_from F_upto (PySem.W.mg_none_of X G z_len) (PySem.W.mg_none_of X G z_enumerate) (PySem.W.mg_of X G v_DEAD) O_sorts (PySem.W.mg_of X G a_sorts) k_sorts b_sorts O_state_behind (PySem.W.mg_of X G a_state_behind) k_state_behind b_state_behind (PySem.W.mg_of X G a_ways_from) k_ways_from b_ways_from (PySem.W.mg_of X G a_upto) k_upto b_upto
  have O_count_boxes := ok_count_boxes (P := l.prog) (w := w) (base := base) (mg := mg) F_count_boxes (PySem.W.mg_of X G v_FREE) O_ways_from (PySem.W.mg_of X G a_ways_from) k_ways_from b_ways_from
  have O_box_number := ok_box_number (P := l.prog) (w := w) (base := base) (mg := mg) F_box_number (PySem.W.mg_none_of X G z_enumerate) (PySem.W.mg_of X G v_DEAD) (PySem.W.mg_of X G v_FREE) O_state_behind (PySem.W.mg_of X G a_state_behind) k_state_behind b_state_behind O_sort_of (PySem.W.mg_of X G a_sort_of) k_sort_of b_sort_of O_upto (PySem.W.mg_of X G a_upto) k_upto b_upto
  have O_box_at := ok_box_at (P := l.prog) (w := w) (base := base) (mg := mg) F_box_at (PySem.W.mg_none_of X G z_enumerate) (PySem.W.mg_of X G v_FREE) O_state_behind (PySem.W.mg_of X G a_state_behind) k_state_behind b_state_behind O_sort_of (PySem.W.mg_of X G a_sort_of) k_sort_of b_sort_of O_upto (PySem.W.mg_of X G a_upto) k_upto b_upto O_least_with (PySem.W.mg_of X G a_least_with) k_least_with b_least_with O_is_integer (PySem.W.mg_of X G a_is_integer) k_is_integer b_is_integer O_count_boxes (PySem.W.mg_of X G a_count_boxes) k_count_boxes b_count_boxes (hT (mc_box_at, mP_box_at) (by simp)) tc_box_at tm_box_at tu_box_at
  have O_Lneighbours_right := ok_Lneighbours_right (P := l.prog) (w := w) (base := base) (mg := mg) F_Lneighbours_right (PySem.W.mg_none_of X G z_repr) O_next_side (PySem.W.mg_of X G a_next_side) k_next_side b_next_side O_box_at (PySem.W.mg_of X G a_box_at) k_box_at b_box_at O_box_number (PySem.W.mg_of X G a_box_number) k_box_number b_box_number O_count_boxes (PySem.W.mg_of X G a_count_boxes) k_count_boxes b_count_boxes
  have O_Lone_and_more := ok_Lone_and_more (P := l.prog) (w := w) (base := base) (mg := mg) F_Lone_and_more (PySem.W.mg_none_of X G z_repr) O_Lneighbours_right (PySem.W.mg_of X G a_Lneighbours_right) k_Lneighbours_right b_Lneighbours_right O_side_number (PySem.W.mg_of X G a_side_number) k_side_number b_side_number O_side_at (PySem.W.mg_of X G a_side_at) k_side_at b_side_at O_Ldraw (PySem.W.mg_of X G a_Ldraw) k_Ldraw b_Ldraw
  have O_law := ok_law (P := l.prog) (w := w) (base := base) (mg := mg) F_law (PySem.W.mg_none_of X G z_range) (PySem.W.mg_none_of X G z_repr) (PySem.W.mg_none_of X G z_tuple) (PySem.W.mg_none_of X G z_len) O_Lone_and_more (PySem.W.mg_of X G a_Lone_and_more) k_Lone_and_more b_Lone_and_more O_side_at (PySem.W.mg_of X G a_side_at) k_side_at b_side_at O_Lfar_filled (PySem.W.mg_of X G a_Lfar_filled) k_Lfar_filled b_Lfar_filled O_Lwith (PySem.W.mg_of X G a_Lwith) k_Lwith b_Lwith O_side_number (PySem.W.mg_of X G a_side_number) k_side_number b_side_number O_Ldraw (PySem.W.mg_of X G a_Ldraw) k_Ldraw b_Ldraw O_Lone (PySem.W.mg_of X G a_Lone) k_Lone b_Lone O_count_along (PySem.W.mg_of X G a_count_along) k_count_along b_count_along O_Lfitting (PySem.W.mg_of X G a_Lfitting) k_Lfitting b_Lfitting O_Ltask (PySem.W.mg_of X G a_Ltask) k_Ltask b_Ltask O_Ldeck (PySem.W.mg_of X G a_Ldeck) k_Ldeck b_Ldeck
  exact O_law
end K54
open PySem PySem.W PyProof.Rows
set_option maxHeartbeats 0 in
theorem PySem.Challenge.cw_twobricks_k54_sides_numbered_holds : PySem.Challenge.rw_twobricks_k54_sides_numbered.Holds := by
  w_on; o_law; k_head; (case hw => w_witness2)
  k_fill
  letI : DL.Tb := ⟨[(137, (PyProof.Rows.envOfC "sum_at" (L2.defScope K54.s_sum_at) 0 0 .none).qual ++ "<lambda>"), (219, (PyProof.Rows.envOfC "box_at" (L2.defScope K54.s_box_at) 0 0 .none).qual ++ "<lambda>")]⟩
  refine DL.walkT (l := PySem.Challenge.rw_twobricks_k54_sides_numbered) (n := 63) (k := 23) (x := "_law_script") (sp := fun K => DL.liftSp K DL.spLaw) (cs := [(141, 137), (223, 219)]) (xs := ["sum_at", "box_at"]) rfl (by decide) rfl ⟨rfl, by decide, by decide⟩ (fun w h Y => PySem.W.km_in_of Y) (fun w => ?T) ?R (fun w => ?O) ?F (fun _ _ a ns hl hT hS => DL.law_start hS (DL.tabs_of fun p hp => ?E))
  case T => first | rfl | kernel_rfl
  case R => intro y hy; (rcases List.mem_cons.mp hy with rfl | hy; exact DL.some_of (by first | rfl | kernel_rfl)); (rcases List.mem_cons.mp hy with rfl | hy; exact DL.some_of (by first | rfl | kernel_rfl)); exact absurd hy List.not_mem_nil
  case O => intro p hp; (rcases List.mem_cons.mp hp with rfl | hp; first | rfl | kernel_rfl); (rcases List.mem_cons.mp hp with rfl | hp; first | rfl | kernel_rfl); exact absurd hp List.not_mem_nil
  case E => (rcases List.mem_cons.mp hp with rfl | hp; exact hT (141, 137) (by simp)); (rcases List.mem_cons.mp hp with rfl | hp; exact hT (223, 219) (by simp)); exact absurd hp List.not_mem_nil
  case F =>
    intro w mg fa h KX G hmg
    refine' K54.all_mk KX G hmg ?a_common ?l_common ?c_common ?k_common ?a_joint ?l_joint ?c_joint ?k_joint ?a_inverse ?l_inverse ?c_inverse ?k_inverse ?a_least_times ?l_least_times ?c_least_times ?k_least_times ?a_is_sum ?l_is_sum ?c_is_sum ?k_is_sum ?a_sums_of ?l_sums_of ?c_sums_of ?k_sums_of ?a_rests ?l_rests ?c_rests ?k_rests ?a_along ?l_along ?c_along ?k_along ?a_floors ?l_floors ?c_floors ?k_floors ?a_count_sums ?l_count_sums ?c_count_sums ?k_count_sums ?a_count_by ?l_count_by ?c_count_by ?k_count_by ?a_count_along ?l_count_along ?c_count_along ?k_count_along ?a_least_with ?l_least_with ?c_least_with ?k_least_with ?a_sum_at ?l_sum_at ?c_sum_at ?k_sum_at ?a_numbered ?l_numbered ?c_numbered ?k_numbered ?a_side_at ?l_side_at ?c_side_at ?k_side_at ?a_side_number ?l_side_number ?c_side_number ?k_side_number ?a_Ldeck ?l_Ldeck ?c_Ldeck ?k_Ldeck ?a_Ldraw ?l_Ldraw ?c_Ldraw ?k_Ldraw ?a_Lone ?l_Lone ?c_Lone ?k_Lone ?a_Lwith ?l_Lwith ?c_Lwith ?k_Lwith ?a_Lrests ?l_Lrests ?c_Lrests ?k_Lrests ?a_Lfar_sum ?l_Lfar_sum ?c_Lfar_sum ?k_Lfar_sum ?a_Lfar_filled ?l_Lfar_filled ?c_Lfar_filled ?k_Lfar_filled ?a_Lsides ?l_Lsides ?c_Lsides ?k_Lsides ?a_Lpair ?l_Lpair ?c_Lpair ?k_Lpair ?a_Lvolume ?l_Lvolume ?c_Lvolume ?k_Lvolume ?a_Ldivisor ?l_Ldivisor ?c_Ldivisor ?k_Ldivisor ?a_Llcm ?l_Llcm ?c_Llcm ?k_Llcm ?a_Lcut_box ?l_Lcut_box ?c_Lcut_box ?k_Lcut_box ?a_Lplain_box ?l_Lplain_box ?c_Lplain_box ?k_Lplain_box ?a_Lbox ?l_Lbox ?c_Lbox ?k_Lbox ?a_Ltask ?l_Ltask ?c_Ltask ?k_Ltask ?a_Lfitting ?l_Lfitting ?c_Lfitting ?k_Lfitting ?a_next_side ?l_next_side ?c_next_side ?k_next_side ?a_sorts ?l_sorts ?c_sorts ?k_sorts ?a_state_behind ?l_state_behind ?c_state_behind ?k_state_behind ?a_upto ?l_upto ?c_upto ?k_upto ?a_ways_from ?l_ways_from ?c_ways_from ?k_ways_from ?a_count_boxes ?l_count_boxes ?c_count_boxes ?k_count_boxes ?a_is_integer ?l_is_integer ?c_is_integer ?k_is_integer ?a_sort_of ?l_sort_of ?c_sort_of ?k_sort_of ?a_box_at ?l_box_at ?c_box_at ?k_box_at ?a_box_number ?l_box_number ?c_box_number ?k_box_number ?a_Lneighbours_right ?l_Lneighbours_right ?c_Lneighbours_right ?k_Lneighbours_right ?a_Lone_and_more ?l_Lone_and_more ?c_Lone_and_more ?k_Lone_and_more ?a_law ?l_law ?c_law ?k_law ?z_min ?z_max ?z_enumerate ?z_len ?z_abs ?z_int ?z_range ?z_tuple ?z_list ?z_isinstance ?z_bool ?z_repr ?v_STEPS ?v_SUMS ?v_NONE ?v_DEAD ?v_FREE ?tc_sum_at ?tm_sum_at ?tu_sum_at ?tc_box_at ?tm_box_at ?tu_box_at
    (case a_common => k_is); (case l_common => k_is); (case c_common => k_is); (case k_common => k_is); (case a_joint => k_is); (case l_joint => k_is); (case c_joint => k_is); (case k_joint => k_is); (case a_inverse => k_is); (case l_inverse => k_is); (case c_inverse => k_is); (case k_inverse => k_is); (case a_least_times => k_is); (case l_least_times => k_is); (case c_least_times => k_is); (case k_least_times => k_is); (case a_is_sum => k_is); (case l_is_sum => k_is); (case c_is_sum => k_is); (case k_is_sum => k_is); (case a_sums_of => k_is); (case l_sums_of => k_is); (case c_sums_of => k_is); (case k_sums_of => k_is); (case a_rests => k_is); (case l_rests => k_is); (case c_rests => k_is); (case k_rests => k_is); (case a_along => k_is); (case l_along => k_is); (case c_along => k_is); (case k_along => k_is); (case a_floors => k_is); (case l_floors => k_is); (case c_floors => k_is); (case k_floors => k_is); (case a_count_sums => k_is); (case l_count_sums => k_is); (case c_count_sums => k_is); (case k_count_sums => k_is); (case a_count_by => k_is); (case l_count_by => k_is); (case c_count_by => k_is); (case k_count_by => k_is); (case a_count_along => k_is); (case l_count_along => k_is); (case c_count_along => k_is); (case k_count_along => k_is); (case a_least_with => k_is); (case l_least_with => k_is); (case c_least_with => k_is); (case k_least_with => k_is); (case a_sum_at => k_is); (case l_sum_at => k_is); (case c_sum_at => k_is); (case k_sum_at => k_is); (case a_numbered => k_is); (case l_numbered => k_is); (case c_numbered => k_is); (case k_numbered => k_is); (case a_side_at => k_is); (case l_side_at => k_is); (case c_side_at => k_is); (case k_side_at => k_is); (case a_side_number => k_is); (case l_side_number => k_is); (case c_side_number => k_is); (case k_side_number => k_is); (case a_Ldeck => k_is); (case l_Ldeck => k_is); (case c_Ldeck => k_is); (case k_Ldeck => k_is); (case a_Ldraw => k_is); (case l_Ldraw => k_is); (case c_Ldraw => k_is); (case k_Ldraw => k_is); (case a_Lone => k_is); (case l_Lone => k_is); (case c_Lone => k_is); (case k_Lone => k_is); (case a_Lwith => k_is); (case l_Lwith => k_is); (case c_Lwith => k_is); (case k_Lwith => k_is); (case a_Lrests => k_is); (case l_Lrests => k_is); (case c_Lrests => k_is); (case k_Lrests => k_is); (case a_Lfar_sum => k_is); (case l_Lfar_sum => k_is); (case c_Lfar_sum => k_is); (case k_Lfar_sum => k_is); (case a_Lfar_filled => k_is); (case l_Lfar_filled => k_is); (case c_Lfar_filled => k_is); (case k_Lfar_filled => k_is); (case a_Lsides => k_is); (case l_Lsides => k_is); (case c_Lsides => k_is); (case k_Lsides => k_is); (case a_Lpair => k_is); (case l_Lpair => k_is); (case c_Lpair => k_is); (case k_Lpair => k_is); (case a_Lvolume => k_is); (case l_Lvolume => k_is); (case c_Lvolume => k_is); (case k_Lvolume => k_is); (case a_Ldivisor => k_is); (case l_Ldivisor => k_is); (case c_Ldivisor => k_is); (case k_Ldivisor => k_is); (case a_Llcm => k_is); (case l_Llcm => k_is); (case c_Llcm => k_is); (case k_Llcm => k_is); (case a_Lcut_box => k_is); (case l_Lcut_box => k_is); (case c_Lcut_box => k_is); (case k_Lcut_box => k_is); (case a_Lplain_box => k_is); (case l_Lplain_box => k_is); (case c_Lplain_box => k_is); (case k_Lplain_box => k_is); (case a_Lbox => k_is); (case l_Lbox => k_is); (case c_Lbox => k_is); (case k_Lbox => k_is); (case a_Ltask => k_is); (case l_Ltask => k_is); (case c_Ltask => k_is); (case k_Ltask => k_is); (case a_Lfitting => k_is); (case l_Lfitting => k_is); (case c_Lfitting => k_is); (case k_Lfitting => k_is); (case a_next_side => k_is); (case l_next_side => k_is); (case c_next_side => k_is); (case k_next_side => k_is); (case a_sorts => k_is); (case l_sorts => k_is); (case c_sorts => k_is); (case k_sorts => k_is); (case a_state_behind => k_is); (case l_state_behind => k_is); (case c_state_behind => k_is); (case k_state_behind => k_is); (case a_upto => k_is); (case l_upto => k_is); (case c_upto => k_is); (case k_upto => k_is); (case a_ways_from => k_is); (case l_ways_from => k_is); (case c_ways_from => k_is); (case k_ways_from => k_is); (case a_count_boxes => k_is); (case l_count_boxes => k_is); (case c_count_boxes => k_is); (case k_count_boxes => k_is); (case a_is_integer => k_is); (case l_is_integer => k_is); (case c_is_integer => k_is); (case k_is_integer => k_is); (case a_sort_of => k_is); (case l_sort_of => k_is); (case c_sort_of => k_is); (case k_sort_of => k_is); (case a_box_at => k_is); (case l_box_at => k_is); (case c_box_at => k_is); (case k_box_at => k_is); (case a_box_number => k_is); (case l_box_number => k_is); (case c_box_number => k_is); (case k_box_number => k_is); (case a_Lneighbours_right => k_is); (case l_Lneighbours_right => k_is); (case c_Lneighbours_right => k_is); (case k_Lneighbours_right => k_is); (case a_Lone_and_more => k_is); (case l_Lone_and_more => k_is); (case c_Lone_and_more => k_is); (case k_Lone_and_more => k_is); (case a_law => k_is); (case l_law => k_is); (case c_law => k_is); (case k_law => k_is); (case z_min => k_is); (case z_max => k_is); (case z_enumerate => k_is); (case z_len => k_is); (case z_abs => k_is); (case z_int => k_is); (case z_range => k_is); (case z_tuple => k_is); (case z_list => k_is); (case z_isinstance => k_is); (case z_bool => k_is); (case z_repr => k_is); (case v_STEPS => k_is); (case v_SUMS => k_is); (case v_NONE => k_is); (case v_DEAD => k_is); (case v_FREE => k_is); (case tc_sum_at => rfl); (case tm_sum_at => exact DL.tm_of (by decide +kernel)); (case tu_sum_at => exact DL.tu_of (by decide +kernel)); (case tc_box_at => rfl); (case tm_box_at => exact DL.tm_of (by decide +kernel)); (case tu_box_at => exact DL.tu_of (by decide +kernel))

